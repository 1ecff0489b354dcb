import PyProof.Rows.All
import HandS.ForMost
import HandS.TupAny
import HandS.Zip
import HandS.IsInst
import HandS.Rev
import HandS.SortInts
import HandS.Deep
import HandS.Wide
import HandS.WideBits
import HandS.Small
import HandS.Conv
import KE.BitLaws
import KE.KBits
import PySem.Challenge.RW_bellnest_k60_states_begin_and_enter
set_option Elab.async false
set_option linter.all false
set_option maxRecDepth 100000
set_option maxHeartbeats 0
/-! Mir1: pure values (PV), how they lie in a heap (Rep), the state of a frame over pure values (SA) with owned lists. -/
namespace Mir
open PySem PySem.Spec PyProof.Rows L2

/-- a pure value -/
inductive PV where
  | non | bl (b : Bool) | int (i : Int) | str (s : Str) | tup (xs : List PV) | lst (xs : List PV)
  deriving Inhabited

mutual
inductive Rep (K : PySem.W.Frag) (M : Hp) : V → PV → Prop
  | non : Rep K M .non .non
  | bl (b : Bool) : Rep K M (.bl b) (.bl b)
  | int (i : Int) : Rep K M (.int i) (.int i)
  | str (s : Str) : Rep K M (.str s) (.str s)
  | tup {a : Addr} {vs : List V} {ps : List PV} : SqT K M a vs → Reps K M vs ps → Rep K M (.ref a) (.tup ps)
  | lst {a : Addr} {vs : List V} {ps : List PV} : SqL K M a vs → Reps K M vs ps → Rep K M (.ref a) (.lst ps)
inductive Reps (K : PySem.W.Frag) (M : Hp) : List V → List PV → Prop
  | nil : Reps K M [] []
  | cons {v : V} {p : PV} {vs : List V} {ps : List PV} : Rep K M v p → Reps K M vs ps → Reps K M (v :: vs) (p :: ps)
end

theorem sqT_mono {K : PySem.W.Frag} {M M' : Hp} {a : Addr} {xs : List V} (s : Same M M') (h : SqT K M a xs) : SqT K M' a xs := by
  rcases h with (h | ⟨o, h⟩) | h
  · exact .inl (.inl (s _ _ h))
  · exact .inl (.inr ⟨o, s _ _ h⟩)
  · exact .inr h

mutual
theorem Rep.mono {K : PySem.W.Frag} {M M' : Hp} (s : Same M M') : ∀ {v : V} {p : PV}, Rep K M v p → Rep K M' v p
  | _, _, .non => .non
  | _, _, .bl b => .bl b
  | _, _, .int i => .int i
  | _, _, .str x => .str x
  | _, _, .tup h r => .tup (sqT_mono s h) (Reps.mono s r)
  | _, _, .lst h r => .lst (Same.seq s h) (Reps.mono s r)
theorem Reps.mono {K : PySem.W.Frag} {M M' : Hp} (s : Same M M') : ∀ {vs : List V} {ps : List PV}, Reps K M vs ps → Reps K M' vs ps
  | _, _, .nil => .nil
  | _, _, .cons h r => .cons (Rep.mono s h) (Reps.mono s r)
end
section
variable {K : PySem.W.Frag} {M : Hp}
theorem Reps.length : ∀ {vs : List V} {ps : List PV}, Reps K M vs ps → vs.length = ps.length
  | _, _, .nil => rfl
  | _, _, .cons _ r => congrArg (· + 1) (Reps.length r)
theorem Reps.append : ∀ {vs ws : List V} {ps qs : List PV}, Reps K M vs ps → Reps K M ws qs → Reps K M (vs ++ ws) (ps ++ qs)
  | _, _, _, _, .nil, r => r
  | _, _, _, _, .cons h t, r => .cons h (Reps.append t r)
theorem Reps.get : ∀ {vs : List V} {ps : List PV} {i : Nat} {p : PV}, Reps K M vs ps → ps[i]? = some p → ∃ v, vs[i]? = some v ∧ Rep K M v p
  | _, _, _, _, .nil, e => by simp at e
  | _, _, 0, _, .cons h _, e => by simp at e; subst e; exact ⟨_, rfl, h⟩
  | _, _, i + 1, _, .cons _ t, e => by
    obtain ⟨v, h1, h2⟩ := Reps.get (i := i) t (by simpa using e)
    exact ⟨v, by simpa using h1, h2⟩
theorem Reps.getV : ∀ {vs : List V} {ps : List PV} {i : Nat} {v : V}, Reps K M vs ps → vs[i]? = some v → ∃ p, ps[i]? = some p ∧ Rep K M v p
  | _, _, _, _, .nil, e => by simp at e
  | _, _, 0, _, .cons h _, e => by simp at e; subst e; exact ⟨_, rfl, h⟩
  | _, _, i + 1, _, .cons _ t, e => by
    obtain ⟨v, h1, h2⟩ := Reps.getV (i := i) t (by simpa using e)
    exact ⟨v, by simpa using h1, h2⟩
theorem Reps.take : ∀ {vs : List V} {ps : List PV} (n : Nat), Reps K M vs ps → Reps K M (vs.take n) (ps.take n)
  | _, _, 0, _ => .nil
  | _, _, _ + 1, .nil => .nil
  | _, _, n + 1, .cons h t => .cons h (Reps.take n t)
theorem Reps.drop : ∀ {vs : List V} {ps : List PV} (n : Nat), Reps K M vs ps → Reps K M (vs.drop n) (ps.drop n)
  | _, _, 0, r => r
  | _, _, _ + 1, .nil => .nil
  | _, _, n + 1, .cons _ t => Reps.drop n t
theorem Reps.set : ∀ {vs : List V} {ps : List PV} (i : Nat) {v : V} {p : PV}, Reps K M vs ps → Rep K M v p → Reps K M (vs.set i v) (ps.set i p)
  | _, _, _, _, _, .nil, _ => .nil
  | _, _, 0, _, _, .cons _ t, h => .cons h t
  | _, _, i + 1, _, _, .cons g t, h => .cons g (Reps.set i t h)
theorem Reps.reverse {vs : List V} {ps : List PV} (r : Reps K M vs ps) : Reps K M vs.reverse ps.reverse := by
  have go : ∀ {vs : List V} {ps : List PV}, Reps K M vs ps → ∀ {ws : List V} {qs : List PV}, Reps K M ws qs → Reps K M (vs.reverse ++ ws) (ps.reverse ++ qs) := by
    intro vs
    induction vs with
    | nil => intro ps r ws qs t; cases r; exact t
    | cons v vs ih =>
      intro ps r ws qs t
      cases r with
      | cons h r => simpa using ih r (.cons h t)
  simpa using go r .nil
theorem Reps.snoc {vs : List V} {ps : List PV} {v : V} {p : PV} (r : Reps K M vs ps) (h : Rep K M v p) : Reps K M (vs ++ [v]) (ps ++ [p]) := r.append (.cons h .nil)
theorem Reps.dropLast : ∀ {vs : List V} {ps : List PV}, Reps K M vs ps → Reps K M vs.dropLast ps.dropLast
  | _, _, .nil => .nil
  | _, _, .cons h .nil => .nil
  | _, _, .cons h (.cons g t) => .cons h (Reps.dropLast (.cons g t))
/-- a list of scalars -/
theorem Reps.ints : ∀ {vs : List V} {ns : List Int}, Reps K M vs (ns.map PV.int) → vs = ns.map V.int
  | [], [], _ => rfl
  | v :: vs, n :: ns, h => by
    simp only [List.map_cons] at h
    cases h with
    | cons h t => cases h; rw [Reps.ints t, List.map_cons]
theorem Reps.of_ints : ∀ (ns : List Int), Reps K M (ns.map V.int) (ns.map PV.int)
  | [] => .nil
  | n :: ns => .cons (.int n) (Reps.of_ints ns)
theorem Reps.bls : ∀ {vs : List V} {ns : List Bool}, Reps K M vs (ns.map PV.bl) → vs = ns.map V.bl
  | [], [], _ => rfl
  | v :: vs, n :: ns, h => by
    simp only [List.map_cons] at h
    cases h with
    | cons h t => cases h; rw [Reps.bls t, List.map_cons]
theorem Reps.strs : ∀ {vs : List V} {ns : List Str}, Reps K M vs (ns.map PV.str) → vs = ns.map V.str
  | [], [], _ => rfl
  | v :: vs, n :: ns, h => by
    simp only [List.map_cons] at h
    cases h with
    | cons h t => cases h; rw [Reps.strs t, List.map_cons]
theorem Reps.of_strs : ∀ (ns : List Str), Reps K M (ns.map V.str) (ns.map PV.str)
  | [] => .nil
  | n :: ns => .cons (.str n) (Reps.of_strs ns)
end

/-! ### no lists within -/
mutual
def PV.flat : PV → Bool
  | .non => true | .bl _ => true | .int _ => true | .str _ => true | .tup xs => PV.flats xs | .lst _ => false
def PV.flats : List PV → Bool
  | [] => true
  | p :: ps => p.flat && PV.flats ps
end
mutual
/-- what holds no list lies in the tuples alone -/
theorem Rep.flatMono {K : PySem.W.Frag} {M M' : Hp} (s : ∀ b o, M b = some o → (∀ xs, o ≠ .lst xs) → M' b = some o) : ∀ {v : V} {p : PV}, p.flat = true → Rep K M v p → Rep K M' v p
  | _, _, _, .non => .non
  | _, _, _, .bl b => .bl b
  | _, _, _, .int i => .int i
  | _, _, _, .str x => .str x
  | _, .tup ps, f, .tup h r => by
    refine .tup ?_ (Reps.flatMono s (by simpa [PV.flat] using f) r)
    rcases h with (h | ⟨o, h⟩) | h
    · exact .inl (.inl (s _ _ h (fun xs e => by cases e)))
    · exact .inl (.inr ⟨o, s _ _ h (fun xs e => by cases e)⟩)
    · exact .inr h
  | _, .lst _, f, .lst _ _ => by simp [PV.flat] at f
theorem Reps.flatMono {K : PySem.W.Frag} {M M' : Hp} (s : ∀ b o, M b = some o → (∀ xs, o ≠ .lst xs) → M' b = some o) : ∀ {vs : List V} {ps : List PV}, PV.flats ps = true → Reps K M vs ps → Reps K M' vs ps
  | _, _, _, .nil => .nil
  | _, p :: ps, f, .cons h r => by
    simp only [PV.flats, Bool.and_eq_true] at f
    exact .cons (Rep.flatMono s f.1 h) (Reps.flatMono s f.2 r)
end

/-! ### slots: a shared value, an owned list -/
inductive Sl where
  | sh (p : PV) | own (xs : List PV)
  deriving Inhabited
def Sl.pv : Sl → PV
  | .sh p => p
  | .own xs => .lst xs
def Sl.flat : Sl → Bool
  | .sh p => p.flat
  | .own xs => PV.flats xs

def SlOk (K : PySem.W.Frag) (H0 M H : Hp) (v : V) : Sl → Prop
  | .sh p => Rep K M v p
  | .own ps => ∃ a vs, v = .ref a ∧ M a = none ∧ H0 a = none ∧ H a = some (.lst vs) ∧ Reps K M vs ps
def adr : V × Sl → Option Addr
  | (.ref a, .own _) => some a
  | _ => none
abbrev addrs (E : List (V × Sl)) : List Addr := E.filterMap adr

theorem addrs_own {a : Addr} {ps : List PV} {E : List (V × Sl)} : addrs ((.ref a, .own ps) :: E) = a :: addrs E := rfl
theorem addrs_sh {v : V} {p : PV} {E : List (V × Sl)} : addrs ((v, .sh p) :: E) = addrs E := by
  cases v <;> rfl
theorem mem_addrs {a : Addr} {ps : List PV} {E : List (V × Sl)} (h : (V.ref a, Sl.own ps) ∈ E) : a ∈ addrs E := List.mem_filterMap.mpr ⟨_, h, rfl⟩
/-- H0: what was there at the entry and stays; M0: what the entry may read; M: what may be read now (shared, never changed) -/
structure Hyp (K : PySem.W.Frag) (H0 M0 M H : Hp) (E : List (V × Sl)) : Prop where
  sub : Same M H
  low : Same M0 M
  new : ∀ b o, M b = some o → M0 b = some o ∨ H0 b = none
  old : Same H0 H
  ok : ∀ e ∈ E, SlOk K H0 M H e.1 e.2
  nd : (addrs E).Nodup

section
variable {K : PySem.W.Frag} {H0 M0 M H : Hp} {E E' : List (V × Sl)}
theorem Hyp.perm (h : Hyp K H0 M0 M H E) (p : E.Perm E') : Hyp K H0 M0 M H E' :=
  ⟨h.sub, h.low, h.new, h.old, fun e he => h.ok e (p.mem_iff.mpr he), (p.filterMap adr).nodup_iff.mp h.nd⟩
theorem Hyp.sublist (h : Hyp K H0 M0 M H E) (p : List.Sublist E' E) : Hyp K H0 M0 M H E' :=
  ⟨h.sub, h.low, h.new, h.old, fun e he => h.ok e (p.subset he), (p.filterMap adr).nodup h.nd⟩
theorem Hyp.push (h : Hyp K H0 M0 M H E) {v : V} {p : PV} (r : Rep K M v p) : Hyp K H0 M0 M H (E ++ [(v, .sh p)]) := by
  refine ⟨h.sub, h.low, h.new, h.old, fun e he => ?_, ?_⟩
  · rcases List.mem_append.mp he with he | he
    · exact h.ok e he
    · simp at he; subst he; exact r
  · have : addrs (E ++ [(v, Sl.sh p)]) = addrs E := by
      cases v <;> simp [addrs, adr]
    rw [this]; exact h.nd
theorem upd_same_at {H : Hp} {a b : Addr} {o u : HO} (h : upd H a o b = some u) : (b = a ∧ u = o) ∨ (b ≠ a ∧ H b = some u) := by
  by_cases e : b = a
  · subst e; rw [upd_same] at h; cases h; exact .inl ⟨rfl, rfl⟩
  · rw [upd_ne e] at h; exact .inr ⟨e, h⟩
theorem same_new {H : Hp} {p : Addr} {o : HO} (h : H p = none) : Same H (upd H p o) := fun b u e => by
  rw [upd_ne (ne_of_none e h)]; exact e
theorem SlOk.laid {v : V} {s : Sl} {p : Addr} {o : HO} {M' : Hp} (h : SlOk K H0 M H v s) (hp : H p = none) (hm : Same M M') (hM : ∀ b, b ≠ p → M' b = M b) : SlOk K H0 M' (upd H p o) v s := by
  cases s with
  | sh q => exact Rep.mono hm h
  | own ps =>
    obtain ⟨a, vs, e, h1, h2, h3, h4⟩ := h
    have na : a ≠ p := ne_of_none h3 hp
    exact ⟨a, vs, e, by rw [hM a na]; exact h1, h2, by rw [upd_ne na]; exact h3, Reps.mono hm h4⟩
/-- a new tuple -/
theorem Hyp.allocT (h : Hyp K H0 M0 M H E) {p : Addr} {vs : List V} {ps : List PV} (hp : H p = none) (r : Reps K M vs ps) :
    Hyp K H0 M0 (upd M p (.tup vs)) (upd H p (.tup vs)) (E ++ [(.ref p, .sh (.tup ps))]) := by
  have mp : M p = none := Same.free h.sub hp
  have sM : Same M (upd M p (.tup vs)) := same_new mp
  have base : Hyp K H0 M0 (upd M p (.tup vs)) (upd H p (.tup vs)) E := by
    refine ⟨fun b o e => ?_, h.low.trans sM, fun b o e => ?_, h.old.trans (same_new hp), fun e he => ?_, h.nd⟩
    · rcases upd_same_at e with ⟨rfl, rfl⟩ | ⟨ne, e⟩
      · rw [upd_same]
      · rw [upd_ne ne]; exact h.sub _ _ e
    · rcases upd_same_at e with ⟨rfl, rfl⟩ | ⟨ne, e⟩
      · exact .inr (Same.free h.old hp)
      · exact h.new _ _ e
    · exact SlOk.laid (h.ok e he) hp sM fun b ne => upd_ne ne
  exact base.push (.tup (.of upd_same) (Reps.mono sM r))
theorem not_addr (h : Hyp K H0 M0 M H E) {p : Addr} (hp : H p = none) : p ∉ addrs E := fun hm => by
  obtain ⟨e, he, e2⟩ := List.mem_filterMap.mp hm
  obtain ⟨v, s⟩ := e
  cases s with
  | sh q => cases v <;> simp [adr] at e2
  | own ps =>
    obtain ⟨a, vs, rfl, h1, h2, h3, h4⟩ := h.ok _ he
    simp [adr] at e2
    subst e2
    rw [hp] at h3; cases h3
/-- a new list, owned -/
theorem Hyp.allocL (h : Hyp K H0 M0 M H E) {p : Addr} {vs : List V} {ps : List PV} (hp : H p = none) (r : Reps K M vs ps) :
    Hyp K H0 M0 M (upd H p (.lst vs)) (E ++ [(.ref p, .own ps)]) := by
  have mp : M p = none := Same.free h.sub hp
  refine ⟨fun b o e => ?_, h.low, h.new, h.old.trans (same_new hp), fun e he => ?_, ?_⟩
  · rw [upd_ne (ne_of_none e mp)]; exact h.sub _ _ e
  · rcases List.mem_append.mp he with he | he
    · exact SlOk.laid (h.ok e he) hp (Same.refl M) fun b ne => rfl
    · simp at he; subst he
      exact ⟨p, vs, rfl, mp, Same.free h.old hp, upd_same, r⟩
  · have : addrs (E ++ [(V.ref p, Sl.own ps)]) = addrs E ++ [p] := by simp [addrs, adr]
    rw [this]
    refine List.nodup_append.mpr ⟨h.nd, by simp, fun a ha b hb => ?_⟩
    simp at hb; subst hb
    intro e; subst e
    exact not_addr h hp ha
/-- an owned list is written -/
theorem Hyp.write {a : Addr} {ps ps' : List PV} {vs' : List V} (h : Hyp K H0 M0 M H ((.ref a, .own ps) :: E)) (r : Reps K M vs' ps') :
    Hyp K H0 M0 M (upd H a (.lst vs')) ((.ref a, .own ps') :: E) := by
  obtain ⟨a', vs, e, h1, h2, h3, h4⟩ := h.ok _ (List.mem_cons_self)
  cases e
  have hn : a ∉ addrs E := by
    have q := h.nd
    rw [addrs_own] at q
    exact (List.nodup_cons.mp q).1
  refine ⟨fun b o e => ?_, h.low, h.new, fun b o e => ?_, fun e he => ?_, ?_⟩
  · rw [upd_ne (ne_of_none e h1)]; exact h.sub _ _ e
  · rw [upd_ne (ne_of_none e h2)]; exact h.old _ _ e
  · rcases List.mem_cons.mp he with he2 | he2
    · subst he2; exact ⟨a, vs', rfl, h1, h2, upd_same, r⟩
    · clear he
      have q := h.ok e (List.mem_cons_of_mem _ he2)
      obtain ⟨v, s⟩ := e
      cases s with
      | sh q' => exact q
      | own qs =>
        obtain ⟨b, ws, rfl, g1, g2, g3, g4⟩ := q
        have hb : b ≠ a := fun z => by
          subst z
          exact hn (mem_addrs he2)
        exact ⟨b, ws, rfl, g1, g2, by rw [upd_ne hb]; exact g3, g4⟩
  · have q := h.nd
    rw [addrs_own] at q ⊢
    exact q
/-- an owned list becomes shared -/
theorem Hyp.freeze {v : V} {ps : List PV} (h : Hyp K H0 M0 M H ((v, .own ps) :: E)) : ∃ M', Same M M' ∧ Hyp K H0 M0 M' H ((v, .sh (.lst ps)) :: E) := by
  obtain ⟨a, vs, rfl, h1, h2, h3, h4⟩ := h.ok _ (List.mem_cons_self)
  have hn : a ∉ addrs E := by
    have q := h.nd
    rw [addrs_own] at q
    exact (List.nodup_cons.mp q).1
  have sM : Same M (upd M a (.lst vs)) := same_new h1
  refine ⟨upd M a (.lst vs), sM, fun b o e => ?_, h.low.trans sM, fun b o e => ?_, h.old, fun e he => ?_, ?_⟩
  · rcases upd_same_at e with ⟨rfl, rfl⟩ | ⟨ne, e⟩
    · exact h3
    · exact h.sub _ _ e
  · rcases upd_same_at e with ⟨rfl, rfl⟩ | ⟨ne, e⟩
    · exact .inr h2
    · exact h.new _ _ e
  · rcases List.mem_cons.mp he with he2 | he2
    · subst he2; exact Rep.lst (.of upd_same) (Reps.mono sM h4)
    · clear he
      have q := h.ok e (List.mem_cons_of_mem _ he2)
      obtain ⟨v, s⟩ := e
      cases s with
      | sh q' => exact Rep.mono sM q
      | own qs =>
        obtain ⟨b, ws, rfl, g1, g2, g3, g4⟩ := q
        have hb : b ≠ a := fun z => by
          subst z
          exact hn (mem_addrs he2)
        exact ⟨b, ws, rfl, by rw [upd_ne hb]; exact g1, g2, g3, Reps.mono sM g4⟩
  · have q := h.nd
    rw [addrs_own] at q
    rw [addrs_sh]
    exact (List.nodup_cons.mp q).2
/-- behind a call: what the caller handed in was shared -/
theorem Hyp.called {M1 H1 : Hp} {v : V} {r : Sl} (h : Hyp K H0 M0 M H E) (c : Hyp K H M M1 H1 [(v, r)]) : Hyp K H0 M0 M1 H1 (E ++ [(v, r)]) := by
  have keep : ∀ e ∈ E, SlOk K H0 M1 H1 e.1 e.2 := fun e he => by
    have q := h.ok e he
    obtain ⟨v, s⟩ := e
    cases s with
    | sh p => exact Rep.mono c.low q
    | own ps =>
      obtain ⟨a, vs, rfl, h1, h2, h3, h4⟩ := q
      refine ⟨a, vs, rfl, ?_, h2, c.old _ _ h3, Reps.mono c.low h4⟩
      cases z : M1 a with
      | none => rfl
      | some o =>
        rcases c.new _ _ z with z | z
        · rw [h1] at z; cases z
        · rw [h3] at z; cases z
  refine ⟨c.sub, h.low.trans c.low, fun b o e => ?_, h.old.trans c.old, fun e he => ?_, ?_⟩
  · rcases c.new _ _ e with z | z
    · exact h.new _ _ z
    · exact .inr (Same.free h.old z)
  · rcases List.mem_append.mp he with he | he
    · exact keep e he
    · simp at he; subst he
      have q := c.ok _ (List.mem_singleton.mpr rfl)
      cases r with
      | sh p => exact q
      | own ps =>
        obtain ⟨a, vs, e, h1, h2, h3, h4⟩ := q
        exact ⟨a, vs, e, h1, Same.free h.old h2, h3, h4⟩
  · show (List.filterMap adr (E ++ [(v, r)])).Nodup
    rw [List.filterMap_append]
    cases e : adr (v, r) with
    | none =>
      have : List.filterMap adr [(v, r)] = [] := by simp [e]
      rw [this, List.append_nil]; exact h.nd
    | some a =>
      have : List.filterMap adr [(v, r)] = [a] := by simp [e]
      rw [this]
      refine List.nodup_append.mpr ⟨h.nd, by simp, fun x hx y hy => ?_⟩
      simp at hy; subst hy
      intro z; subst z
      have q := c.ok _ (List.mem_singleton.mpr rfl)
      cases r with
      | sh p => cases v <;> simp [adr] at e
      | own ps =>
        obtain ⟨b, vs, rfl, h1, h2, h3, h4⟩ := q
        simp [adr] at e
        subst e
        exact not_addr h h2 hx
/-- the same, where the callee could read the lists at B too (lists that stay owned); what it hands back holds none -/
theorem Hyp.lent {B : Addr → Prop} {Mb M1 H1 : Hp} {v : V} {r : Sl} (h : Hyp K H0 M0 M H E) (hB : ∀ b, B b → M b = none ∧ ∃ vs, H b = some (.lst vs)) (hb : ∀ b, ¬ B b → Mb b = M b) (hbl : ∀ b, B b → ∃ vs, Mb b = some (.lst vs)) (fr : r.flat = true)
    (c : Hyp K H Mb M1 H1 [(v, r)]) : ∃ M2, Hyp K H0 M0 M2 H1 (E ++ [(v, r)]) := by
  classical
  refine ⟨fun b => if B b then none else M1 b, ?_⟩
  generalize hM2 : (fun b => if B b then none else M1 b : Hp) = M2
  have m2n : ∀ b, B b → M2 b = none := fun b hb' => by rw [← hM2]; exact if_pos hb'
  have m2e : ∀ b, ¬ B b → M2 b = M1 b := fun b hb' => by rw [← hM2]; exact if_neg hb'
  have sMM : Same M M2 := fun b o e => by
    have nb : ¬ B b := fun z => by rw [(hB b z).1] at e; cases e
    rw [m2e b nb]
    exact c.low _ _ (by rw [hb b nb]; exact e)
  have c' : Hyp K H M M2 H1 [(v, r)] := by
    refine ⟨fun b o e => ?_, sMM, fun b o e => ?_, c.old, fun e he => ?_, c.nd⟩
    · by_cases z : B b
      · rw [m2n b z] at e; cases e
      · rw [m2e b z] at e; exact c.sub _ _ e
    · by_cases z : B b
      · rw [m2n b z] at e; cases e
      · rw [m2e b z] at e
        rcases c.new _ _ e with q | q
        · rw [hb b z] at q; exact .inl q
        · exact .inr q
    · simp at he; subst he
      have q := c.ok _ (List.mem_singleton.mpr rfl)
      have fm : ∀ b o, M1 b = some o → (∀ xs, o ≠ .lst xs) → M2 b = some o := fun b o e n => by
        by_cases z : B b
        · obtain ⟨vs, e2⟩ := hbl b z
          have := c.low _ _ e2
          rw [e] at this; cases this
          exact absurd rfl (n vs)
        · rw [m2e b z]; exact e
      cases r with
      | sh p => exact Rep.flatMono fm fr q
      | own ps =>
        obtain ⟨a, vs, e, h1, h2, h3, h4⟩ := q
        refine ⟨a, vs, e, ?_, h2, h3, Reps.flatMono fm fr h4⟩
        by_cases z : B a
        · exact m2n a z
        · rw [m2e a z]; exact h1
  exact h.called c'
end
end Mir
/-! Mir2: a small language over pure values: its expressions and statements, and what they come to. -/
namespace Mir
open PySem PySem.Spec PyProof.Rows L2

/-- a target of a for or a comprehension -/
inductive Tg where
  | name (i : Nat) | tup (is : List Nat)
  deriving DecidableEq

mutual
inductive E where
  | var (i : Nat) | non | bl (b : Bool) | int (i : Int) | str (s : Str)
  | glob (x : Str) (p : PV)
  | bin (op : Operator) (a b : E) | neg (a : E) | inv (a : E)
  | cmp (op : CmpOp) (a b : E) | chain (op op' : CmpOp) (a b c : E)
  | and (a b : E) | or (a b : E) | not (a : E)
  | ife (c : T) (a b : E)
  | ix (a b : E) | slc (a : E) (lo hi : O)
  | tup (es : Es) | lst (es : Es)
  | call (g : Nat) (es : Es) | blt (f : String) (es : Es) | isi (a : E) (ty : String)
  | meth (m : String) (o a : E)
  | comp (elt : E) (tg : Tg) (own : List (Str × Nat)) (it : I) (cd : C)
inductive O where
  | no | some (e : E)
inductive C where
  | yes | on (t : T)
inductive Es where
  | nil | cons (e : E) (es : Es)
/-- a test -/
inductive T where
  | val (e : E) | cmp (op : CmpOp) (a b : E) | chain (op op' : CmpOp) (a b c : E) | and (a b : T) | or (a b : T) | not (a : T)
/-- what is walked -/
inductive I where
  | val (e : E) | range1 (e : E) | range2 (a b : E) | enum (e : E) | zip (a b : E) | rev (e : E)
end
mutual
inductive S where
  | pass | set (i : Nat) (e : E) | expr (e : E) | ret (e : E) | retN
  | ife (c : T) (a b : Ss) | for (tg : Tg) (it : I) (b : Ss) | while (c : T) (b : Ss)
  | app (i : Nat) (e : E) | ext (i : Nat) (e : E) | stx (i : Nat) (k e : E) | clear (i : Nat) | pop (i : Nat) | brk
inductive Ss where
  | nil | cons (s : S) (ss : Ss)
end

/-! ### values -/
abbrev PEnv := List (Option Sl)
/-- what an expression comes to: the list that a slot owns, or a value of its own -/
inductive Bw where
  | b (i : Nat) | t (s : Sl)
  deriving Inhabited
def slb (env : PEnv) : Bw → Option Sl
  | .t s => some s
  | .b i => env.getD i none
def pvb (env : PEnv) (x : Bw) : Option PV := (slb env x).map Sl.pv
def pvbs (env : PEnv) : List Bw → Option (List PV)
  | [] => some []
  | x :: xs => (pvb env x).bind fun p => (pvbs env xs).map (p :: ·)
/-- the value, shared from now on -/
def fix (env : PEnv) : Bw → Option (PV × PEnv)
  | .t s => some (s.pv, env)
  | .b i => (env.getD i none).map fun s => (s.pv, env.set i (some (.sh s.pv)))
def fixs (env : PEnv) : List Bw → Option (List PV × PEnv)
  | [] => some ([], env)
  | x :: xs => (fix env x).bind fun r => (fixs r.2 xs).map fun q => (r.1 :: q.1, q.2)
/-- to be stored or handed back: an owned value stays owned where it is nobody's -/
def fixO (env : PEnv) : Bw → Option (Sl × PEnv)
  | .t s => some (s, env)
  | .b i => (env.getD i none).map fun s => (.sh s.pv, env.set i (some (.sh s.pv)))

def lim : Nat := 16777216
def small (i : Int) : Bool := decide (-(2 ^ 64) < i ∧ i < 2 ^ 64)
def toD : PV → Option PyData
  | .non => some .none | .bl b => some (.bool b) | .int i => some (.int i) | .str s => some (.str s)
  | .tup xs => (xs.attach.mapM fun p => toD p.1).map .tuple
  | .lst xs => (xs.attach.mapM fun p => toD p.1).map .list
termination_by p => sizeOf p
decreasing_by all_goals (have := List.sizeOf_lt_of_mem p.2; simp; omega)

def bin2 : Operator → PV → PV → Option Sl
  | .Add, .int i, .int j => some (.sh (.int (i + j)))
  | .Add, .str s, .str t => if s.length + t.length ≤ lim then some (.sh (.str (s ++ t))) else none
  | .Add, .lst xs, .lst ys => if xs.length + ys.length ≤ lim then some (.own (xs ++ ys)) else none
  | .Add, .tup xs, .tup ys => if xs.length + ys.length ≤ lim then some (.sh (.tup (xs ++ ys))) else none
  | .Sub, .int i, .int j => some (.sh (.int (i - j)))
  | .Mult, .int i, .int j => if small i || small j then some (.sh (.int (i * j))) else none
  | .Mod, .int i, .int j => if j ≠ 0 then some (.sh (.int (i.fmod j))) else none
  | .FloorDiv, .int i, .int j => if j ≠ 0 ∧ j.natAbs < 1073741824 then some (.sh (.int (i.fdiv j))) else none
  | .Pow, .int i, .int j => if 0 ≤ j ∧ j ≤ 1000000 ∧ i.natAbs < 2 ^ 64 then some (.sh (.int (i ^ j.toNat))) else none
  | .LShift, .int i, .int j => if 0 ≤ j ∧ j ≤ 1000000 ∧ i.natAbs < 2 ^ 64 then some (.sh (.int (i * 2 ^ j.toNat))) else none
  | .RShift, .int i, .int j => if 0 ≤ j then some (.sh (.int (i / 2 ^ j.toNat))) else none
  | .BitAnd, .int i, .int j => some (.sh (.int (Builtin.bitAnd i j)))
  | .BitOr, .int i, .int j => some (.sh (.int (Builtin.bitOr i j)))
  | .BitXor, .int i, .int j => some (.sh (.int (Builtin.bitXor i j)))
  | _, _, _ => none
/-- == of scalars -/
def eqS : PV → PV → Option Bool
  | .int i, .int j => some (decide (i = j))
  | .str s, .str t => some (decide (s = t))
  | .bl a, .bl b => some (decide (a = b))
  | .non, .non => some true
  | .non, .int _ => some false | .int _, .non => some false | .non, .bl _ => some false | .bl _, .non => some false | .non, .str _ => some false | .str _, .non => some false
  | .int _, .str _ => some false | .str _, .int _ => some false | .bl _, .str _ => some false | .str _, .bl _ => some false
  | _, _ => none
def isSeq : PV → Bool
  | .tup _ => true | .lst _ => true | _ => false
/-- == of data, one of which is a list or tuple -/
def eqD (p q : PV) : Option Bool := if isSeq p || isSeq q then
    match toD p, toD q with
    | some d, some e => if SeqAt.shaped d && SeqAt.shaped e then some (PyData.eqv d e) else none
    | _, _ => none
  else none
def eq2 (p q : PV) : Option Bool := match eqS p q with
  | some b => some b
  | none => eqD p q
/-- a flat value as a V -/
def flV : PV → Option V
  | .non => some .non | .bl b => some (.bl b) | .int i => some (.int i) | .str s => some (.str s) | _ => none
def flVs : List PV → Option (List V)
  | [] => some []
  | p :: ps => (flV p).bind fun v => (flVs ps).map (v :: ·)
def in2 : PV → PV → Option Bool
  | .str s, .str t => some (!(Builtin.Str.occurrences t s 0 t.length 1).isEmpty)
  | x, .lst ys => (flV x).bind fun v => (flVs ys).map fun vs => inV v vs
  | x, .tup ys => (flV x).bind fun v => (flVs ys).map fun vs => inV v vs
  | _, _ => none
def cmp2 : CmpOp → PV → PV → Option Bool
  | .Eq, p, q => eq2 p q
  | .NotEq, p, q => (eq2 p q).map (!·)
  | .Lt, .int i, .int j => some (decide (i < j))
  | .LtE, .int i, .int j => some (decide (i ≤ j))
  | .Gt, .int i, .int j => some (decide (j < i))
  | .GtE, .int i, .int j => some (decide (j ≤ i))
  | .Is, p, .non => some (match p with | .non => true | _ => false)
  | .IsNot, p, .non => some (match p with | .non => false | _ => true)
  | .In, p, q => in2 p q
  | .NotIn, p, q => (in2 p q).map (!·)
  | _, _, _ => none
def truth : PV → Option Bool
  | .non => some false | .bl b => some b | .int i => some (i != 0)
  | .str s => if s.length ≤ lim then some ((s.length : Int) != 0) else none
  | .lst xs => some (!xs.isEmpty) | .tup xs => some (!xs.isEmpty)
def ix2 : PV → PV → Option PV
  | .lst xs, .int i => atI xs i
  | .tup xs, .int i => atI xs i
  | .str s, .int i => if s.length ≤ lim then (atI s.cps.toList i).map fun c => .str ⟨#[c]⟩ else none
  | _, _ => none
def cutP (xs : List PV) (lo hi : Option Int) : List PV := (xs.drop (HT.sIx xs.length 0 lo)).take (HT.sIx xs.length xs.length hi - HT.sIx xs.length 0 lo)
def slc3 (p : PV) (lo hi : Option Int) : Option Sl := match p with
  | .lst xs => some (.own (cutP xs lo hi))
  | .tup xs => some (.sh (.tup (cutP xs lo hi)))
  | .str s => if s.length ≤ lim then some (.sh (.str (cutS s lo hi))) else none
  | _ => none
def asInts : List PV → Option (List Int)
  | [] => some []
  | .int i :: ps => (asInts ps).map (i :: ·)
  | _ => none
def asBls : List PV → Option (List Bool)
  | [] => some []
  | .bl i :: ps => (asBls ps).map (i :: ·)
  | _ => none
def asStrs : List PV → Option (List Str)
  | [] => some []
  | .str i :: ps => (asStrs ps).map (i :: ·)
  | _ => none
def isortI : List Int → List Int
  | [] => []
  | x :: xs => ins x (isortI xs)
where ins (x : Int) : List Int → List Int
  | [] => [x]
  | y :: ys => if x ≤ y then x :: y :: ys else y :: ins x ys
/-- built-in functions and types -/
def blt2 : String → List PV → Option Sl
  | "len", [.lst xs] => some (.sh (.int xs.length))
  | "len", [.tup xs] => some (.sh (.int xs.length))
  | "len", [.str s] => if s.length ≤ lim then some (.sh (.int s.length)) else none
  | "sum", [.lst xs] => (asInts xs).map fun ns => .sh (.int ns.sum)
  | "all", [.lst xs] => (asBls xs).map fun bs => .sh (.bl (bs.all id))
  | "any", [.lst xs] => (asBls xs).map fun bs => .sh (.bl (bs.any id))
  | "abs", [.int i] => some (.sh (.int (if i < 0 then -i else i)))
  | "max", [.int i, .int j] => some (.sh (.int (if j > i then j else i)))
  | "min", [.int i, .int j] => some (.sh (.int (if j < i then j else i)))
  | "int", [.int i] => some (.sh (.int i))
  | "int", [.bl b] => some (.sh (.int (if b then 1 else 0)))
  | "int", [.str s] => if s.length ≤ 640 then (PySem.intText? s).map fun n => .sh (.int n) else none
  | "str", [.int i] => if i.natAbs.log2 < 1920 then some (.sh (.str (toString i))) else none
  | "list", [.lst xs] => some (.own xs)
  | "list", [.tup xs] => some (.own xs)
  | "tuple", [.lst xs] => some (.sh (.tup xs))
  | "tuple", [.tup xs] => some (.sh (.tup xs))
  | "sorted", [.lst xs] => (asInts xs).map fun ns => .own ((isortI ns).map PV.int)
  | _, _ => none
/-- isinstance with a built-in class -/
def isi2 : PV → String → Option Bool
  | .non, t => kitB "NoneType" t
  | .bl _, t => kitB "bool" t
  | .int _, t => kitB "int" t
  | .str _, t => kitB "str" t
  | .lst _, t => kitB "list" t
  | .tup _, t => kitB "tuple" t
/-- methods that change nothing -/
def meth2 : String → PV → PV → Option Sl
  | "join", .str s, .lst xs => (asStrs xs).bind fun ys => if (ys.map (·.length)).sum + ys.length * s.length ≤ lim then some (.sh (.str (Txt.join s ys))) else none
  | "find", .str s, .str t => some (.sh (.int (Txt.find s t)))
  | "split", .str s, .str t => if t.length ≠ 0 ∧ s.length + 2 ≤ lim then some (.own ((Txt.split s t).map PV.str)) else none
  | _, _, _ => none

/-- what is walked, item by item -/
def rangeL (lo : Int) (n : Nat) : List PV := (List.range n).map fun (k : Nat) => .int (lo + (k : Int))
def inR (i : Int) : Bool := decide (-(2 ^ 62) ≤ i ∧ i < 2 ^ 62)
def items1 : PV → Option (List PV)
  | .lst xs => some xs
  | .tup xs => some xs
  | .str s => some (s.cps.toList.map fun c => .str ⟨#[c]⟩)
  | _ => none
def enumL (xs : List PV) : List PV := (List.range xs.length).zipWith (fun (k : Nat) x => PV.tup [.int (k : Int), x]) xs
def zipL : PV → PV → Option (List PV)
  | .lst xs, .lst ys => some (xs.zipWith (fun x y => PV.tup [x, y]) ys)
  | .tup xs, .tup ys => some (xs.zipWith (fun x y => PV.tup [x, y]) ys)
  | _, _ => none
/-- a target takes an item -/
def setAll : List Nat → List PV → PEnv → Option PEnv
  | [], [], env => some env
  | i :: is, p :: ps, env => setAll is ps (env.set i (some (.sh p)))
  | _, _, _ => none
def bindT : Tg → PV → PEnv → Option PEnv
  | .name i, p, env => some (env.set i (some (.sh p)))
  | .tup is, .tup ps, env => setAll is ps env
  | _, _, _ => none
def wipeE : List Nat → PEnv → PEnv
  | [], env => env
  | i :: is, env => (wipeE is env).set i none

/-- a slot that a comprehension may cover: nothing or a shared value -/
def shN (env : PEnv) (i : Nat) : Bool := match env.getD i none with
  | some (.own _) => false | _ => true
/-- .. and what it held, behind it -/
def backE (old : PEnv) : List Nat → PEnv → PEnv
  | [], env => env
  | i :: is, env => (backE old is env).set i (old.getD i none)
/-- the comprehension's loop: acc what is made so far -/
def compL (step : PV → PEnv → Option (Option PV × PEnv)) : List PV → PEnv → List PV → Option (List PV × PEnv)
  | [], env, acc => some (acc, env)
  | p :: ps, env, acc => (step p env).bind fun r => match r.1 with
    | some q => if acc.length < lim then compL step ps r.2 (acc ++ [q]) else none
    | none => compL step ps r.2 acc

abbrev Fns := Nat → List PV → Option Sl
/-- how a statement ends -/
inductive Fl where
  | next (env : PEnv) | ret (s : Sl) | brk (env : PEnv)
def forL (body : PV → PEnv → Option Fl) : List PV → PEnv → Option Fl
  | [], env => some (.next env)
  | p :: ps, env => (body p env).bind fun r => match r with
    | .next e => forL body ps e
    | .ret s => some (.ret s)
    | .brk e => some (.next e)
def whileL (test : PEnv → Option (Bool × PEnv)) (body : PEnv → Option Fl) : Nat → PEnv → Option Fl
  | 0, _ => none
  | n + 1, env => (test env).bind fun r => if r.1 then (body r.2).bind fun q => match q with
      | .next e => whileL test body n e
      | .ret s => some (.ret s)
      | .brk e => some (.next e)
    else some (.next r.2)
def fuel : Nat := 1000000

mutual
def ev (F : Fns) : E → PEnv → Option (Bw × PEnv)
  | .var i, env => match env.getD i none with
    | some (.sh p) => some (.t (.sh p), env)
    | some (.own _) => some (.b i, env)
    | none => none
  | .non, env => some (.t (.sh .non), env)
  | .bl b, env => some (.t (.sh (.bl b)), env)
  | .int i, env => some (.t (.sh (.int i)), env)
  | .str s, env => some (.t (.sh (.str s)), env)
  | .glob _ p, env => some (.t (.sh p), env)
  | .bin op a b, env => (ev F a env).bind fun r => (ev F b r.2).bind fun q => (pvb q.2 r.1).bind fun x => (pvb q.2 q.1).bind fun y => (bin2 op x y).map fun z => (.t z, q.2)
  | .neg a, env => (ev F a env).bind fun r => match pvb r.2 r.1 with
    | some (.int i) => some (.t (.sh (.int (-i))), r.2)
    | _ => none
  | .inv a, env => (ev F a env).bind fun r => match pvb r.2 r.1 with
    | some (.int i) => some (.t (.sh (.int (Builtin.bitNot i))), r.2)
    | _ => none
  | .cmp op a b, env => (ev F a env).bind fun r => (ev F b r.2).bind fun q => (pvb q.2 r.1).bind fun x => (pvb q.2 q.1).bind fun y => (cmp2 op x y).map fun z => (.t (.sh (.bl z)), q.2)
  | .chain op op' a b c, env => (ev F a env).bind fun r => (ev F b r.2).bind fun q => (pvb q.2 r.1).bind fun x => (pvb q.2 q.1).bind fun y => (cmp2 op x y).bind fun z =>
      if z then (ev F c q.2).bind fun w => (pvb w.2 q.1).bind fun y' => (pvb w.2 w.1).bind fun u => (cmp2 op' y' u).map fun z' => (.t (.sh (.bl z')), w.2)
      else some (.t (.sh (.bl false)), q.2)
  | .and a b, env => (ev F a env).bind fun r => match pvb r.2 r.1 with
    | some (.bl true) => ev F b r.2
    | some (.bl false) => some (.t (.sh (.bl false)), r.2)
    | _ => none
  | .or a b, env => (ev F a env).bind fun r => match pvb r.2 r.1 with
    | some (.bl false) => ev F b r.2
    | some (.bl true) => some (.t (.sh (.bl true)), r.2)
    | _ => none
  | .not a, env => (ev F a env).bind fun r => match pvb r.2 r.1 with
    | some (.bl b) => some (.t (.sh (.bl (!b))), r.2)
    | _ => none
  | .ife c a b, env => (evT F c env).bind fun r => if r.1 then ev F a r.2 else ev F b r.2
  | .ix a b, env => (ev F a env).bind fun r => (ev F b r.2).bind fun q => (pvb q.2 r.1).bind fun x => (pvb q.2 q.1).bind fun y => (ix2 x y).map fun z => (.t (.sh z), q.2)
  | .slc a lo hi, env => (ev F a env).bind fun r => (evO F lo r.2).bind fun l => (evO F hi l.2).bind fun h => (pvb h.2 r.1).bind fun x => (slc3 x l.1 h.1).map fun z => (.t z, h.2)
  | .tup es, env => (evs F es env).bind fun r => (fixs r.2 r.1).bind fun q => if q.1.length ≤ lim then some (.t (.sh (.tup q.1)), q.2) else none
  | .lst es, env => (evs F es env).bind fun r => (fixs r.2 r.1).bind fun q => if q.1.length ≤ lim then some (.t (.own q.1), q.2) else none
  | .call g es, env => (evs F es env).bind fun r => (pvbs r.2 r.1).bind fun ps => (F g ps).bind fun s => if s.flat then some (.t s, r.2) else (fixs r.2 r.1).map fun q => (.t s, q.2)
  | .blt f es, env => (evs F es env).bind fun r => (pvbs r.2 r.1).bind fun ps => (blt2 f ps).map fun s => (.t s, r.2)
  | .isi a ty, env => (ev F a env).bind fun r => (pvb r.2 r.1).bind fun x => (isi2 x ty).map fun z => (.t (.sh (.bl z)), r.2)
  | .meth m a b, env => (ev F a env).bind fun r => (pvb r.2 r.1).bind fun x => (ev F b r.2).bind fun q => (pvb q.2 q.1).bind fun y => (meth2 m x y).map fun z => (.t z, q.2)
  | .comp elt tg own it cd, env => (evI F it env).bind fun r => if (own.map (·.2)).all (shN r.2) then
      (compL (fun p e => (bindT tg p e).bind fun e1 => (evC F cd e1).bind fun c => if c.1 then (ev F elt c.2).bind fun x => (fix x.2 x.1).map fun y => (some y.1, wipeE (own.map (·.2)) y.2) else some (none, wipeE (own.map (·.2)) c.2)) r.1 (wipeE (own.map (·.2)) r.2) []).map
        fun q => (.t (.own q.1), backE r.2 (own.map (·.2)) (wipeE (own.map (·.2)) q.2))
    else none
def evO (F : Fns) : O → PEnv → Option (Option Int × PEnv)
  | .no, env => some (none, env)
  | .some e, env => (ev F e env).bind fun r => match pvb r.2 r.1 with
    | some (.int i) => some (some i, r.2)
    | _ => none
def evC (F : Fns) : C → PEnv → Option (Bool × PEnv)
  | .yes, env => some (true, env)
  | .on t, env => evT F t env
def evs (F : Fns) : Es → PEnv → Option (List Bw × PEnv)
  | .nil, env => some ([], env)
  | .cons e es, env => (ev F e env).bind fun r => (evs F es r.2).map fun q => (r.1 :: q.1, q.2)
def evT (F : Fns) : T → PEnv → Option (Bool × PEnv)
  | .val e, env => (ev F e env).bind fun r => (pvb r.2 r.1).bind fun x => (truth x).map fun b => (b, r.2)
  | .cmp op a b, env => (ev F a env).bind fun r => (ev F b r.2).bind fun q => (pvb q.2 r.1).bind fun x => (pvb q.2 q.1).bind fun y => (cmp2 op x y).map fun z => (z, q.2)
  | .chain op op' a b c, env => (ev F a env).bind fun r => (ev F b r.2).bind fun q => (pvb q.2 r.1).bind fun x => (pvb q.2 q.1).bind fun y => (cmp2 op x y).bind fun z =>
      if z then (ev F c q.2).bind fun w => (pvb w.2 q.1).bind fun y' => (pvb w.2 w.1).bind fun u => (cmp2 op' y' u).map fun z' => (z', w.2)
      else some (false, q.2)
  | .and a b, env => (evT F a env).bind fun r => if r.1 then evT F b r.2 else some (false, r.2)
  | .or a b, env => (evT F a env).bind fun r => if r.1 then some (true, r.2) else evT F b r.2
  | .not a, env => (evT F a env).map fun r => (!r.1, r.2)
def evI (F : Fns) : I → PEnv → Option (List PV × PEnv)
  | .val e, env => (ev F e env).bind fun r => (fix r.2 r.1).bind fun q => (items1 q.1).map fun xs => (xs, q.2)
  | .range1 e, env => (ev F e env).bind fun r => match pvb r.2 r.1 with
    | some (.int j) => if inR j then some (rangeL 0 j.toNat, r.2) else none
    | _ => none
  | .range2 a b, env => (ev F a env).bind fun r => (ev F b r.2).bind fun q => match pvb q.2 r.1, pvb q.2 q.1 with
    | some (.int i), some (.int j) => if inR i && inR j then some (rangeL i (j - i).toNat, q.2) else none
    | _, _ => none
  | .enum e, env => (ev F e env).bind fun r => (fix r.2 r.1).bind fun q => match q.1 with
    | .lst xs => some (enumL xs, q.2)
    | _ => none
  | .zip a b, env => (ev F a env).bind fun r => (ev F b r.2).bind fun q => (fixs q.2 [r.1, q.1]).bind fun z => match z.1 with
    | [x, y] => (zipL x y).map fun xs => (xs, z.2)
    | _ => none
  | .rev e, env => (ev F e env).bind fun r => (fix r.2 r.1).bind fun q => match q.1 with
    | .lst xs => some (xs.reverse, q.2)
    | .tup xs => some (xs.reverse, q.2)
    | _ => none
end
mutual
def ex (F : Fns) : S → PEnv → Option Fl
  | .pass, env => some (.next env)
  | .set i e, env => (ev F e env).bind fun r => (fixO r.2 r.1).map fun q => .next (q.2.set i (some q.1))
  | .expr e, env => (ev F e env).map fun r => .next r.2
  | .ret e, env => (ev F e env).bind fun r => (fixO r.2 r.1).map fun q => .ret q.1
  | .retN, env => some (.ret (.sh .non))
  | .ife c a b, env => (evT F c env).bind fun r => if r.1 then exs F a r.2 else exs F b r.2
  | .for tg it b, env => (evI F it env).bind fun r => forL (fun p e => (bindT tg p e).bind fun e1 => exs F b e1) r.1 r.2
  | .while c b, env => whileL (evT F c) (exs F b) fuel env
  | .app i e, env => match env.getD i none with
    | some (.own _) => (ev F e env).bind fun r => (fix r.2 r.1).bind fun q => match q.2.getD i none with
      | some (.own xs) => if xs.length < lim then some (.next (q.2.set i (some (.own (xs ++ [q.1]))))) else none
      | _ => none
    | _ => none
  | .ext i e, env => match env.getD i none with
    | some (.own _) => (ev F e env).bind fun r => match slb r.2 r.1, r.2.getD i none with
      | some (.own ys), some (.own xs) => if xs.length + ys.length ≤ lim then some (.next (r.2.set i (some (.own (xs ++ ys))))) else none
      | _, _ => none
    | _ => none
  | .stx i k e, env => (ev F e env).bind fun r => (fix r.2 r.1).bind fun q => match q.2.getD i none with
    | some (.own _) => (ev F k q.2).bind fun kk => match pvb kk.2 kk.1, kk.2.getD i none with
      | some (.int n), some (.own xs) => (ixN xs.length n).map fun j => .next (kk.2.set i (some (.own (xs.set j q.1))))
      | _, _ => none
    | _ => none
  | .clear i, env => match env.getD i none with
    | some (.own _) => some (.next (env.set i (some (.own []))))
    | _ => none
  | .pop i, env => match env.getD i none with
    | some (.own xs) => if xs.length = 0 then none else some (.next (env.set i (some (.own xs.dropLast))))
    | _ => none
  | .brk, env => some (.brk env)
def exs (F : Fns) : Ss → PEnv → Option Fl
  | .nil, env => some (.next env)
  | .cons s ss, env => (ex F s env).bind fun r => match r with
    | .next e => exs F ss e
    | .ret v => some (.ret v)
    | .brk e => some (.brk e)
end
/-- a def: how many names (parameters first), its parameters, its body -/
structure Fn where
  name : Str
  N : List Str
  ps : List Str
  body : Ss
def Fn.run (f : Fn) (F : Fns) (args : List PV) : Option Sl :=
  if args.length = f.ps.length then
    match exs F f.body (args.map (fun p => some (.sh p)) ++ List.replicate (f.N.length - args.length) none) with
    | some (.ret s) => some s
    | some (.next _) => some (.sh .non)
    | _ => none
  else none
/-- the defs at a level of calls -/
def fns (P : List Fn) : Nat → Fns
  | 0 => fun _ _ => none
  | n + 1 => fun g args => match P[g]? with
    | some f => f.run (fns P n) args
    | none => none
end Mir
/-! Mir3: the state of a frame: slots, what they hold, values at hand. -/
namespace Mir
open PySem PySem.Spec PyProof.Rows L2

inductive Lv : L2.St → PEnv → List (V × Sl) → Prop
  | nil : Lv [] [] []
  | skip {x : Option V} {σ : L2.St} {env : PEnv} {E : List (V × Sl)} : Lv σ env E → Lv (x :: σ) (none :: env) E
  | live {v : V} {s : Sl} {σ : L2.St} {env : PEnv} {E : List (V × Sl)} : Lv σ env E → Lv (some v :: σ) (some s :: env) ((v, s) :: E)
theorem Lv.length : ∀ {σ : L2.St} {env : PEnv} {E : List (V × Sl)}, Lv σ env E → σ.length = env.length
  | _, _, _, .nil => rfl
  | _, _, _, .skip h => congrArg (· + 1) h.length
  | _, _, _, .live h => congrArg (· + 1) h.length
/-- a slot that holds something -/
theorem Lv.split : ∀ {σ : L2.St} {env : PEnv} {E : List (V × Sl)} {i : Nat} {s : Sl}, Lv σ env E → env.getD i none = some s →
    ∃ v E1 E2, σ[i]? = some (some v) ∧ E = E1 ++ (v, s) :: E2 ∧ ∀ s', Lv σ (env.set i (some s')) (E1 ++ (v, s') :: E2)
  | _, _, _, i, _, .nil, h => by simp at h
  | _, _, _, 0, _, .skip h, e => by simp at e
  | _, _, _, i + 1, s, .skip h, e => by
    obtain ⟨v, E1, E2, h1, h2, h3⟩ := h.split (i := i) (s := s) (by simpa using e)
    exact ⟨v, E1, E2, by simpa using h1, h2, fun s' => .skip (h3 s')⟩
  | _, _, _, 0, s, .live (v := v) (E := E) h, e => by
    simp at e; subst e
    exact ⟨v, [], E, rfl, rfl, fun s' => .live h⟩
  | _, _, _, i + 1, s, .live (v := v') (s := t) h, e => by
    obtain ⟨v, E1, E2, h1, h2, h3⟩ := h.split (i := i) (s := s) (by simpa using e)
    exact ⟨v, (v', t) :: E1, E2, by simpa using h1, by rw [h2]; rfl, fun s' => .live (h3 s')⟩
/-- a slot is stored -/
theorem Lv.store : ∀ {σ : L2.St} {env : PEnv} {E : List (V × Sl)} {i : Nat} (v : V) (s : Sl), Lv σ env E → i < env.length →
    ∃ E1 Eo E2, E = E1 ++ Eo ++ E2 ∧ Lv (σ.set i (some v)) (env.set i (some s)) (E1 ++ (v, s) :: E2)
  | _, _, _, i, _, _, .nil, h => by simp at h
  | _, _, _, 0, v, s, .skip (E := E) h, _ => ⟨[], [], E, rfl, .live h⟩
  | _, _, _, i + 1, v, s, .skip h, e => by
    obtain ⟨E1, Eo, E2, h1, h2⟩ := h.store (i := i) v s (by simpa using e)
    exact ⟨E1, Eo, E2, h1, .skip h2⟩
  | _, _, _, 0, v, s, .live (v := v') (s := t) (E := E) h, _ => ⟨[], [(v', t)], E, rfl, .live h⟩
  | _, _, _, i + 1, v, s, .live (v := v') (s := t) h, e => by
    obtain ⟨E1, Eo, E2, h1, h2⟩ := h.store (i := i) v s (by simpa using e)
    exact ⟨(v', t) :: E1, Eo, E2, by rw [h1]; rfl, .live h2⟩
/-- a slot is forgotten -/
theorem Lv.drop1 : ∀ {σ : L2.St} {env : PEnv} {E : List (V × Sl)} (i : Nat), Lv σ env E → ∃ E', List.Sublist E' E ∧ Lv σ (env.set i none) E' ∧ ∀ x, Lv (σ.set i x) (env.set i none) E'
  | _, _, _, i, .nil => ⟨[], .refl _, by simpa using Lv.nil, fun x => by simpa using Lv.nil⟩
  | _, _, _, 0, .skip (E := E) h => ⟨E, .refl _, .skip h, fun x => .skip h⟩
  | _, _, _, i + 1, .skip h => by
    obtain ⟨E', h1, h2, h3⟩ := h.drop1 i
    exact ⟨E', h1, .skip h2, fun x => .skip (h3 x)⟩
  | _, _, _, 0, .live (E := E) h => ⟨E, List.sublist_cons_self _ _, .skip h, fun x => .skip h⟩
  | _, _, _, i + 1, .live (v := v) (s := s) h => by
    obtain ⟨E', h1, h2, h3⟩ := h.drop1 i
    exact ⟨(v, s) :: E', h1.cons₂ _, .live h2, fun x => .live (h3 x)⟩
theorem Lv.setNone : ∀ {σ : L2.St} {env : PEnv} {E : List (V × Sl)} (i : Nat) (x : Option V), env.getD i none = none → Lv σ env E → Lv (σ.set i x) env E
  | _, _, _, i, x, _, .nil => by simpa using Lv.nil
  | _, _, _, 0, x, _, .skip h => .skip h
  | _, _, _, i + 1, x, e, .skip h => .skip (h.setNone i x (by simpa using e))
  | _, _, _, 0, x, e, .live h => by simp at e
  | _, _, _, i + 1, x, e, .live h => .live (h.setNone i x (by simpa using e))

def ent : V × Bw → Option (V × Sl)
  | (v, .t s) => some (v, s)
  | _ => none
abbrev tents (T : List (V × Bw)) : List (V × Sl) := T.filterMap ent
theorem tents_append (A B : List (V × Bw)) : tents (A ++ B) = tents A ++ tents B := List.filterMap_append
theorem tents_t (v : V) (s : Sl) (B : List (V × Bw)) : tents ((v, .t s) :: B) = (v, s) :: tents B := rfl
theorem tents_b (v : V) (i : Nat) (B : List (V × Bw)) : tents ((v, .b i) :: B) = tents B := rfl

structure SAx (K : PySem.W.Frag) (H0 M0 : Hp) (σ : L2.St) (env : PEnv) (T : List (V × Bw)) (H : Hp) (E : List (V × Sl)) (M : Hp) : Prop where
  lv : Lv σ env E
  hyp : Hyp K H0 M0 M H (E ++ tents T)
  bor : ∀ v i, (v, Bw.b i) ∈ T → σ[i]? = some (some v) ∧ (env.getD i none).isSome
def SA (K : PySem.W.Frag) (H0 M0 : Hp) (σ : L2.St) (env : PEnv) (T : List (V × Bw)) (H : Hp) : Prop := ∃ E M, SAx K H0 M0 σ env T H E M
def noB (T : List (V × Bw)) : Prop := ∀ v i, (v, Bw.b i) ∉ T
theorem noB.nil : noB [] := fun _ _ h => by cases h
theorem noB.append {A B : List (V × Bw)} (a : noB A) (b : noB B) : noB (A ++ B) := fun v i h => (List.mem_append.mp h).elim (a v i) (b v i)
theorem noB.one (v : V) (s : Sl) : noB [(v, Bw.t s)] := fun w i h => by simp at h

section
variable {K : PySem.W.Frag} {H0 M0 M H : Hp} {σ : L2.St} {env : PEnv} {T A B : List (V × Bw)} {E : List (V × Sl)}
theorem SAx.sub (h : SAx K H0 M0 σ env T H E M) {T' : List (V × Bw)} (s : List.Sublist T' T) : SAx K H0 M0 σ env T' H E M :=
  ⟨h.lv, h.hyp.sublist (List.Sublist.append_left (s.filterMap ent) E), fun v i hm => h.bor v i (s.subset hm)⟩
theorem SA.sub (h : SA K H0 M0 σ env T H) {T' : List (V × Bw)} (s : List.Sublist T' T) : SA K H0 M0 σ env T' H :=
  let ⟨E, M, x⟩ := h; ⟨E, M, x.sub s⟩
theorem SA.left (h : SA K H0 M0 σ env (T ++ A) H) : SA K H0 M0 σ env T H := h.sub (List.sublist_append_left _ _)
/-- the middle is dropped -/
theorem SA.mid (h : SA K H0 M0 σ env (T ++ A ++ B) H) : SA K H0 M0 σ env (T ++ B) H := h.sub (List.Sublist.append_right (List.sublist_append_left _ _) _)
theorem SAx.same (h : SAx K H0 M0 σ env T H E M) : Same M H := h.hyp.sub
/-- what a value at hand is -/
theorem SAx.get (h : SAx K H0 M0 σ env T H E M) {v : V} {x : Bw} {s : Sl} (hm : (v, x) ∈ T) (hs : slb env x = some s) : SlOk K H0 M H v s := by
  cases x with
  | t s' =>
    have e : s' = s := by simpa [slb] using hs
    subst e
    exact h.hyp.ok (v, s') (List.mem_append_right _ (List.mem_filterMap.mpr ⟨_, hm, rfl⟩))
  | b i =>
    obtain ⟨v', E1, E2, h1, h2, _⟩ := h.lv.split hs
    have e := (h.bor v i hm).1
    rw [h1] at e; cases e
    exact h.hyp.ok (v, s) (List.mem_append_left _ (by rw [h2]; simp))
theorem SAx.var (h : SAx K H0 M0 σ env T H E M) {i : Nat} {s : Sl} (e : env.getD i none = some s) : ∃ v, σ[i]? = some (some v) ∧ SlOk K H0 M H v s := by
  obtain ⟨v, E1, E2, h1, h2, _⟩ := h.lv.split e
  exact ⟨v, h1, h.hyp.ok (v, s) (List.mem_append_left _ (by rw [h2]; simp))⟩
/-- a shared value more -/
theorem SAx.push (h : SAx K H0 M0 σ env T H E M) {v : V} {p : PV} (r : Rep K M v p) : SA K H0 M0 σ env (T ++ [(v, .t (.sh p))]) H := by
  refine ⟨E, M, h.lv, ?_, fun w i hm => ?_⟩
  · rw [tents_append, ← List.append_assoc]
    exact h.hyp.push r
  · rcases List.mem_append.mp hm with q | q
    · exact h.bor w i q
    · simp at q
theorem SAx.pushB (h : SAx K H0 M0 σ env T H E M) {v : V} {i : Nat} (e : σ[i]? = some (some v)) (e' : (env.getD i none).isSome) : SA K H0 M0 σ env (T ++ [(v, .b i)]) H := by
  refine ⟨E, M, h.lv, ?_, fun w j hm => ?_⟩
  · rw [tents_append]
    simpa [tents_b] using h.hyp
  · rcases List.mem_append.mp hm with q | q
    · exact h.bor w j q
    · simp at q
      obtain ⟨rfl, rfl⟩ := q
      exact ⟨e, e'⟩
/-- a new tuple -/
theorem SAx.tup (h : SAx K H0 M0 σ env T H E M) {p : Addr} {vs : List V} {ps : List PV} (hp : H p = none) (r : Reps K M vs ps) :
    SA K H0 M0 σ env (T ++ [(.ref p, .t (.sh (.tup ps)))]) (upd H p (.tup vs)) := by
  refine ⟨E, upd M p (.tup vs), h.lv, ?_, fun w i hm => ?_⟩
  · rw [tents_append, ← List.append_assoc]
    exact h.hyp.allocT hp r
  · rcases List.mem_append.mp hm with q | q
    · exact h.bor w i q
    · simp at q
/-- a new list -/
theorem SAx.lst (h : SAx K H0 M0 σ env T H E M) {p : Addr} {vs : List V} {ps : List PV} (hp : H p = none) (r : Reps K M vs ps) :
    SA K H0 M0 σ env (T ++ [(.ref p, .t (.own ps))]) (upd H p (.lst vs)) := by
  refine ⟨E, M, h.lv, ?_, fun w i hm => ?_⟩
  · rw [tents_append, ← List.append_assoc]
    exact h.hyp.allocL hp r
  · rcases List.mem_append.mp hm with q | q
    · exact h.bor w i q
    · simp at q
theorem getD_set_some {env : PEnv} {i j : Nat} {s : Sl} (h : (env.getD i none).isSome) : ((env.set j (some s)).getD i none).isSome := by
  by_cases e : j = i
  · subst e
    by_cases hl : j < env.length
    · simp [List.getD_eq_getElem?_getD, hl]
    · rw [List.set_eq_of_length_le (by omega)]; exact h
  · simpa [List.getD_eq_getElem?_getD, List.getElem?_set_ne e] using h
theorem getD_set_ne {env : PEnv} {i j : Nat} {o : Option Sl} (e : j ≠ i) : (env.set j o).getD i none = env.getD i none := by
  simp [List.getD_eq_getElem?_getD, List.getElem?_set_ne e]
theorem perm_mid (X A B : List (V × Sl)) (e : V × Sl) : (X ++ (A ++ e :: B)).Perm (e :: (X ++ (A ++ B))) := by
  rw [← List.append_assoc, ← List.append_assoc]
  exact List.perm_middle
/-- a value at hand is shared from now on -/
theorem SA.fix {v : V} {x : Bw} {r : PV × PEnv} (h : SA K H0 M0 σ env (A ++ (v, x) :: B) H) (e : Mir.fix env x = some r) : SA K H0 M0 σ r.2 (A ++ (v, .t (.sh r.1)) :: B) H := by
  obtain ⟨E, M, h⟩ := h
  cases x with
  | t s =>
    simp only [Mir.fix, Option.some.injEq] at e
    subst e
    cases s with
    | sh p => exact ⟨E, M, h⟩
    | own ps =>
      have q := h.hyp
      rw [tents_append, tents_t] at q
      obtain ⟨M', _, q'⟩ := (q.perm (perm_mid E (tents A) (tents B) _)).freeze
      refine ⟨E, M', h.lv, ?_, fun w i hm => h.bor w i ?_⟩
      · rw [tents_append, tents_t]
        exact q'.perm (perm_mid E (tents A) (tents B) _).symm
      · rcases List.mem_append.mp hm with z | z
        · exact List.mem_append_left _ z
        · rcases List.mem_cons.mp z with z | z
          · simp at z
          · exact List.mem_append_right _ (List.mem_cons_of_mem _ z)
  | b i =>
    simp only [Mir.fix, Option.map_eq_some_iff] at e
    obtain ⟨s, e1, e2⟩ := e
    subst e2
    obtain ⟨v', E1, E2, h1, h2, h3⟩ := h.lv.split e1
    have e := (h.bor v i (List.mem_append_right _ (List.mem_cons_self))).1
    rw [h1] at e; cases e
    have bor : ∀ (w : V) (j : Nat), (w, Bw.b j) ∈ A ++ (v, .t (.sh s.pv)) :: B → σ[j]? = some (some w) ∧ ((env.set i (some (.sh s.pv))).getD j none).isSome := fun w j hm => by
      have g : (w, Bw.b j) ∈ A ++ (v, .b i) :: B → σ[j]? = some (some w) ∧ ((env.set i (some (.sh s.pv))).getD j none).isSome := fun hm => ⟨(h.bor w j hm).1, getD_set_some (h.bor w j hm).2⟩
      refine g ?_
      rcases List.mem_append.mp hm with z | z
      · exact List.mem_append_left _ z
      · rcases List.mem_cons.mp z with z | z
        · simp at z
        · exact List.mem_append_right _ (List.mem_cons_of_mem _ z)
    have q := h.hyp
    rw [tents_append, tents_b, h2, List.append_assoc, List.cons_append] at q
    have main : ∃ M', Hyp K H0 M0 M' H ((E1 ++ (v, .sh s.pv) :: E2) ++ (tents A ++ tents B)) := by
      cases s with
      | sh p => exact ⟨M, by rw [List.append_assoc, List.cons_append]; exact q⟩
      | own ps =>
        obtain ⟨M', _, q'⟩ := (q.perm (List.perm_middle (a := (v, Sl.own ps)) (l₁ := E1) (l₂ := E2 ++ (tents A ++ tents B)))).freeze
        exact ⟨M', by rw [List.append_assoc, List.cons_append]; exact q'.perm (List.perm_middle (a := (v, Sl.sh (.lst ps))) (l₁ := E1) (l₂ := E2 ++ (tents A ++ tents B))).symm⟩
    obtain ⟨M', q'⟩ := main
    refine ⟨E1 ++ (v, .sh s.pv) :: E2, M', h3 _, ?_, bor⟩
    rw [tents_append, tents_t]
    have r : Rep K M' v s.pv := q'.ok (v, .sh s.pv) (List.mem_append_left _ (by simp))
    have q2 := q'.push r
    refine q2.perm ?_
    rw [List.append_assoc]
    refine List.Perm.append_left _ ?_
    rw [List.append_assoc]
    exact List.Perm.append_left _ (List.perm_append_comm (l₁ := tents B) (l₂ := [(v, Sl.sh s.pv)]))
theorem SA.noBor (h : SA K H0 M0 σ env T H) {i : Nat} (hn : (env.getD i none).isNone) (v : V) : (v, Bw.b i) ∉ T := fun hm => by
  obtain ⟨E, M, h⟩ := h
  have := (h.bor v i hm).2
  cases q : env.getD i none with
  | none => rw [q] at this; cases this
  | some s => rw [q] at hn; cases hn
theorem SA.fixs : ∀ {xs : List Bw} {vs : List V} {env : PEnv} {A : List (V × Bw)} {r : List PV × PEnv}, vs.length = xs.length → SA K H0 M0 σ env (A ++ vs.zip xs ++ B) H → Mir.fixs env xs = some r →
    r.1.length = xs.length ∧ SA K H0 M0 σ r.2 (A ++ vs.zip (r.1.map fun p => Bw.t (.sh p)) ++ B) H
  | [], vs, env, A, r, hl, h, e => by
    simp only [Mir.fixs, Option.some.injEq] at e
    subst e
    have : vs = [] := by simpa using hl
    subst this
    exact ⟨rfl, h⟩
  | x :: xs, vs, env, A, r, hl, h, e => by
    simp only [Mir.fixs, Option.bind_eq_some_iff, Option.map_eq_some_iff] at e
    obtain ⟨r1, e1, r2, e2, rfl⟩ := e
    cases vs with
    | nil => simp at hl
    | cons v vs =>
      have h' : SA K H0 M0 σ env (A ++ (v, x) :: (vs.zip xs ++ B)) H := by simpa using h
      have h1 := h'.fix e1
      have h2 : SA K H0 M0 σ r1.2 ((A ++ [(v, .t (.sh r1.1))]) ++ vs.zip xs ++ B) H := by simpa using h1
      obtain ⟨l, h3⟩ := SA.fixs (by simpa using hl) h2 e2
      exact ⟨by simp [l], by simpa using h3⟩
/-- to be stored: the value leaves the hand -/
theorem SA.fixO {v : V} {x : Bw} {r : Sl × PEnv} (h : SA K H0 M0 σ env (A ++ (v, x) :: B) H) (e : Mir.fixO env x = some r) : SA K H0 M0 σ r.2 (A ++ (v, .t r.1) :: B) H := by
  cases x with
  | t s =>
    simp only [Mir.fixO, Option.some.injEq] at e
    subst e
    exact h
  | b i =>
    simp only [Mir.fixO, Option.map_eq_some_iff] at e
    obtain ⟨s, e1, e2⟩ := e
    subst e2
    exact h.fix (r := (s.pv, env.set i (some (.sh s.pv)))) (by simp only [Mir.fix, e1, Option.map_some])
/-- a slot is stored -/
theorem SA.set {v : V} {s : Sl} {i : Nat} (h : SA K H0 M0 σ env (T ++ [(v, .t s)]) H) (hi : i < env.length) (hT : ∀ v, (v, Bw.b i) ∉ T) : SA K H0 M0 (σ.set i (some v)) (env.set i (some s)) T H := by
  obtain ⟨E, M, h⟩ := h
  obtain ⟨E1, Eo, E2, e, l⟩ := h.lv.store v s hi
  refine ⟨_, M, l, ?_, fun w j hm => ?_⟩
  rotate_left
  · have ne : i ≠ j := fun e => by subst e; exact hT w hm
    rw [List.getElem?_set_ne ne, getD_set_ne ne]
    exact h.bor w j (List.mem_append_left _ hm)
  have q := h.hyp
  rw [tents_append, tents_t, e] at q
  have q2 : Hyp K H0 M0 M H ((E1 ++ E2) ++ (tents T ++ [(v, s)])) := by
    refine q.sublist (List.Sublist.append_right ?_ _)
    exact List.Sublist.append_right (List.sublist_append_left _ _) _
  refine q2.perm ?_
  rw [List.append_assoc, List.append_assoc, List.cons_append]
  refine List.Perm.append_left _ ?_
  rw [← List.append_assoc]
  exact (List.perm_append_comm (l₁ := E2 ++ tents T) (l₂ := [(v, s)]))
/-- an owned slot is written -/
theorem SA.write {i : Nat} {ps : List PV} (h : SAx K H0 M0 σ env T H E M) (e : env.getD i none = some (.own ps)) : ∃ a vs, σ[i]? = some (some (.ref a)) ∧ H a = some (.lst vs) ∧ Reps K M vs ps ∧
    ∀ vs' ps', Reps K M vs' ps' → ∃ E', SAx K H0 M0 σ (env.set i (some (.own ps'))) T (upd H a (.lst vs')) E' M := by
  obtain ⟨v, E1, E2, h1, h2, h3⟩ := h.lv.split e
  obtain ⟨a, vs, rfl, g1, g2, g3, g4⟩ : SlOk K H0 M H v (.own ps) := h.hyp.ok (v, .own ps) (List.mem_append_left _ (by rw [h2]; simp))
  refine ⟨a, vs, h1, g3, g4, fun vs' ps' r => ⟨_, h3 _, ?_, fun w j hm => ⟨(h.bor w j hm).1, getD_set_some (h.bor w j hm).2⟩⟩⟩
  have q := h.hyp
  rw [h2, List.append_assoc, List.cons_append] at q
  rw [List.append_assoc, List.cons_append]
  exact ((q.perm List.perm_middle).write r).perm List.perm_middle.symm
/-- a temporary owned list is written -/
theorem SAx.writeT {a : Addr} {ps ps' : List PV} {vs' : List V} (h : SAx K H0 M0 σ env (A ++ (.ref a, .t (.own ps)) :: B) H E M) (r : Reps K M vs' ps') : SAx K H0 M0 σ env (A ++ (.ref a, .t (.own ps')) :: B) (upd H a (.lst vs')) E M := by
  refine ⟨h.lv, ?_, fun w i hm => h.bor w i ?_⟩
  · have q := h.hyp
    rw [tents_append, tents_t] at q ⊢
    exact ((q.perm (perm_mid E (tents A) (tents B) _)).write r).perm (perm_mid E (tents A) (tents B) _).symm
  · rcases List.mem_append.mp hm with z | z
    · exact List.mem_append_left _ z
    · rcases List.mem_cons.mp z with z | z
      · simp at z
      · exact List.mem_append_right _ (List.mem_cons_of_mem _ z)
theorem SA.wipe1 {i : Nat} (h : SA K H0 M0 σ env T H) (hT : ∀ v, (v, Bw.b i) ∉ T) (x : Option V) : SA K H0 M0 (σ.set i x) (env.set i none) T H := by
  obtain ⟨E, M, h⟩ := h
  obtain ⟨E', s, _, l⟩ := h.lv.drop1 i
  refine ⟨E', M, l x, h.hyp.sublist (List.Sublist.append_right s _), fun w j hm => ?_⟩
  have : i ≠ j := fun e => by subst e; exact hT w hm
  rw [List.getElem?_set_ne this, getD_set_ne this]
  exact h.bor w j hm
theorem Lv.congr : ∀ {σ σ' : L2.St} {env : PEnv} {E : List (V × Sl)}, Lv σ env E → σ.length = σ'.length → (∀ i, (env.getD i none).isSome → σ[i]? = σ'[i]?) → Lv σ' env E
  | _, [], _, _, .nil, _, _ => .nil
  | _, x :: σ', _, _, .nil, hl, _ => by simp at hl
  | _, [], _, _, .skip h, hl, _ => by simp at hl
  | _, [], _, _, .live h, hl, _ => by simp at hl
  | _, x :: σ', _, _, .skip h, hl, hc => .skip (h.congr (by simpa using hl) fun i hi => by simpa using hc (i + 1) (by simpa using hi))
  | _, x :: σ', _, _, .live h, hl, hc => by
    have e := hc 0 rfl
    simp at e
    subst e
    exact .live (h.congr (by simpa using hl) fun i hi => by simpa using hc (i + 1) (by simpa using hi))
theorem SA.congr {σ' : L2.St} (h : SA K H0 M0 σ env T H) (hl : σ.length = σ'.length) (hc : ∀ i, (env.getD i none).isSome → σ[i]? = σ'[i]?) : SA K H0 M0 σ' env T H := by
  obtain ⟨E, M, h⟩ := h
  exact ⟨E, M, h.lv.congr hl hc, h.hyp, fun w j hm => ⟨by rw [← hc j (h.bor w j hm).2]; exact (h.bor w j hm).1, (h.bor w j hm).2⟩⟩
theorem SA.length (h : SA K H0 M0 σ env T H) : σ.length = env.length := let ⟨_, _, x⟩ := h; x.lv.length
/-- the block's own slots are forgotten -/
theorem SA.wipes : ∀ {vs : List Nat} {σ : L2.St} {env : PEnv}, SA K H0 M0 σ env T H → (∀ i ∈ vs, ∀ v, (v, Bw.b i) ∉ T) → SA K H0 M0 (wipe σ vs) (wipeE vs env) T H
  | [], _, _, h, _ => h
  | i :: vs, _, _, h, hT => (h.wipes fun j hj => hT j (List.mem_cons_of_mem _ hj)).wipe1 (hT i List.mem_cons_self) none
theorem wipeE_get : ∀ {vs : List Nat} {env : PEnv} {i : Nat}, i ∈ vs → ((wipeE vs env).getD i none).isSome = false
  | v :: vs, env, i, h => by
    unfold wipeE
    by_cases e : v = i
    · subst e
      by_cases hl : v < (wipeE vs env).length
      · simp [List.getD_eq_getElem?_getD, hl]
      · simp [List.getD_eq_getElem?_getD, hl]
    · rw [getD_set_ne e]
      exact wipeE_get (by simpa [Ne.symm e] using h)
theorem wipe_get : ∀ {vs : List Nat} {σ : L2.St} {i : Nat}, i ∉ vs → (wipe σ vs)[i]? = σ[i]?
  | [], _, _, _ => rfl
  | v :: vs, σ, i, h => by
    simp only [List.mem_cons, not_or] at h
    unfold wipe
    rw [List.getElem?_set_ne (Ne.symm h.1)]
    exact wipe_get h.2
theorem wipe_in : ∀ {vs : List Nat} {σ : L2.St} {i : Nat}, i ∈ vs → (wipe σ vs)[i]? = if i < σ.length then some none else none
  | v :: vs, σ, i, h => by
    unfold wipe
    by_cases e : v = i
    · subst e
      by_cases hl : v < σ.length
      · rw [if_pos hl, List.getElem?_set_self (by rw [wipe_length]; exact hl)]
      · rw [if_neg hl, List.getElem?_eq_none (by rw [List.length_set, wipe_length]; omega)]
    · rw [List.getElem?_set_ne e]
      exact wipe_in (by simpa [Ne.symm e] using h)
theorem wipe_eq {vs : List Nat} {σ σ' : L2.St} (hl : σ.length = σ'.length) (h : ∀ i, i ∉ vs → σ[i]? = σ'[i]?) : wipe σ vs = wipe σ' vs := by
  apply List.ext_getElem?
  intro i
  by_cases e : i ∈ vs
  · rw [wipe_in e, wipe_in e, hl]
  · rw [wipe_get e, wipe_get e]; exact h i e
/-- behind the block -/
theorem SA.unwipe {vs : List Nat} (h : SA K H0 M0 (wipe σ vs) env T H) (hT : ∀ i ∈ vs, ∀ v, (v, Bw.b i) ∉ T) : SA K H0 M0 σ (wipeE vs env) T H := by
  refine (h.wipes hT).congr (by rw [wipe_length, wipe_length]) fun i hi => ?_
  by_cases e : i ∈ vs
  · rw [wipeE_get e] at hi; cases hi
  · rw [wipe_get e, wipe_get e]
/-- the state of a value at hand, lists -/
theorem SlOk.lst {v : V} {s : Sl} {ps : List PV} (h : SlOk K H0 M H v s) (e : s.pv = .lst ps) (sm : Same M H) : ∃ a vs, v = .ref a ∧ SqL K H a vs ∧ Reps K M vs ps := by
  cases s with
  | sh p =>
    have e' : p = .lst ps := e
    subst e'
    cases h with
    | lst q r => exact ⟨_, _, rfl, Same.seq sm q, r⟩
  | own xs =>
    have e' : xs = ps := by simpa [Sl.pv] using e
    subst e'
    obtain ⟨a, vs, rfl, h1, h2, h3, h4⟩ := h
    exact ⟨a, vs, rfl, .of h3, h4⟩
theorem SlOk.sh {v : V} {s : Sl} {p : PV} (h : SlOk K H0 M H v s) (e : s.pv = p) (n : ∀ ps, p ≠ .lst ps) : Rep K M v p := by
  cases s with
  | sh q => have e' : q = p := e; subst e'; exact h
  | own xs => exact absurd e.symm (n xs)
theorem SlOk.tup {v : V} {s : Sl} {ps : List PV} (h : SlOk K H0 M H v s) (e : s.pv = .tup ps) (sm : Same M H) : ∃ a vs, v = .ref a ∧ SqT K H a vs ∧ Reps K M vs ps := by
  cases h.sh e (fun _ z => by cases z) with
  | tup q r => exact ⟨_, _, rfl, sqT_mono sm q, r⟩
theorem SlOk.int {v : V} {s : Sl} {i : Int} (h : SlOk K H0 M H v s) (e : s.pv = .int i) : v = .int i := by
  cases h.sh e (fun _ z => by cases z); rfl
theorem SlOk.bl {v : V} {s : Sl} {i : Bool} (h : SlOk K H0 M H v s) (e : s.pv = .bl i) : v = .bl i := by
  cases h.sh e (fun _ z => by cases z); rfl
theorem SlOk.str {v : V} {s : Sl} {i : Str} (h : SlOk K H0 M H v s) (e : s.pv = .str i) : v = .str i := by
  cases h.sh e (fun _ z => by cases z); rfl
theorem SlOk.non {v : V} {s : Sl} (h : SlOk K H0 M H v s) (e : s.pv = .non) : v = .non := by
  cases h.sh e (fun _ z => by cases z); rfl
/-- the value as a whole, by the heap -/
theorem SlOk.rep {v : V} {s : Sl} (h : SlOk K H0 M H v s) (sm : Same M H) : Rep K H v s.pv := by
  cases s with
  | sh p => exact Rep.mono sm h
  | own xs =>
    obtain ⟨a, vs, rfl, h1, h2, h3, h4⟩ := h
    exact .lst (.of h3) (Reps.mono sm h4)
theorem pvb_sl {x : Bw} {p : PV} (e : pvb env x = some p) : ∃ s, slb env x = some s ∧ s.pv = p := by
  simpa [pvb, Option.map_eq_some_iff] using e
end
end Mir
/-! Mir4: each operation and expression does what the pure reading says. -/
namespace Mir
open PySem PySem.Spec PyProof.Rows L2

theorem lim_eq : lim = sizeLine := by rw [sizeLine_eq]; rfl
theorem le_line {n : Nat} (h : n ≤ lim) : n ≤ sizeLine := by rw [← lim_eq]; exact h

section
variable {X : Cx}
theorem PE_imp {e : Expr} {t t' : TE} (h : PE X e t) (i : ∀ σ H Q, t' σ H Q → t σ H Q) : PE X e t' := ⟨fun pins s σ H Q I q => h.run pins s σ H Q I (i _ _ _ q)⟩
theorem PT_imp {e : Expr} {t t' : TT} (h : PT X e t) (i : ∀ σ H Q, t' σ H Q → t σ H Q) : PT X e t' := ⟨fun pins s σ H Q I q => h.run pins s σ H Q I (i _ _ _ q)⟩
theorem PA_imp {e : List Expr} {t t' : TA} (h : PA X e t) (i : ∀ σ H Q, t' σ H Q → t σ H Q) : PA X e t' := ⟨fun pos pins s σ H Q I q => h.run pos pins s σ H Q I (i _ _ _ q)⟩
theorem PO_imp {e : Option Expr} {t t' : TO} (h : PO X e t) (i : ∀ σ H Q, t' σ H Q → t σ H Q) : PO X e t' := ⟨fun pins s σ H Q I q => h.run pins s σ H Q I (i _ _ _ q)⟩
theorem PS_imp {e : Stmt} {t t' : TS} (h : PS X e t) (i : ∀ D σ H, t' D σ H → t D σ H) : PS X e t' := ⟨fun pins s σ H D I q => h.run pins s σ H D I (i _ _ _ q)⟩
theorem PSs_imp {e : List Stmt} {t t' : TS} (h : PSs X e t) (i : ∀ D σ H, t' D σ H → t D σ H) : PSs X e t' := ⟨fun pins s σ H D I q => h.run pins s σ H D I (i _ _ _ q)⟩
theorem PI_imp {tg e : Expr} {t t' : TI} (h : PI X tg e t) (i : ∀ σ H R, t' σ H R → t σ H R) : PI X tg e t' := ⟨fun pins s σ H R I q => h.run pins s σ H R I (i _ _ _ q)⟩
theorem PI_or {tg e : Expr} {t t' : TI} (h : PI X tg e t) (h' : PI X tg e t') : PI X tg e (fun σ H R => t σ H R ∨ t' σ H R) :=
  ⟨fun pins s σ H R I q => q.elim (h.run pins s σ H R I) (h'.run pins s σ H R I)⟩
end

theorem wp_addL {prog : Program} {w : World} {A : Around} {E : Value → Shared → Prop} {s : Shared} {l b : Addr} {vs ws : List Value} {Q : Value → Shared → Prop} (hl : s.heap.IsList l vs.toArray) (hb : s.heap.IsList b ws.toArray)
    (hsz : vs.length + ws.length ≤ sizeLine) (h : Q (.ref s.heap.objs.size) { s with heap := s.heap.push { cls := .type "list", data := .seq (vs ++ ws).toArray } }) :
    wpAny (model prog w) A (binaryOp .Add (.ref l) (.ref b)) Q E s := by
  obtain ⟨⟨cls, dd, data, sl⟩, ho, hc, n, hd⟩ := id hl
  obtain ⟨⟨cls2, dd2, data2, sl2⟩, ho2, hc2, n2, hd2⟩ := id hb
  simp only at hc hd hc2 hd2
  subst hc hd hc2 hd2
  have e : vs.toArray ++ ws.toArray = (vs ++ ws).toArray := by simp
  refine concat_meets ⟨_, ho, rfl⟩ ⟨_, ho2, rfl⟩ noFill_list_add seq_list_add PySem.F.slot_list_add PySem.F.entry_list_add (PySem.F.args_list_add_2 _ _) (list_addW l b vs.toArray ws.toArray n n2 dd dd2 sl sl2 (by simpa using hsz)) ⟨ho, ho2, ?_⟩
  rw [e]
  exact h
def rCatL (K : PySem.W.Frag) : R2 := fun x y H Q => ∃ a b xs ys, x = .ref a ∧ y = .ref b ∧ SqL K H a xs ∧ SqL K H b ys ∧ xs.length + ys.length ≤ sizeLine ∧ ∀ p, H p = none → Q (.ref p) (upd H p (.lst (xs ++ ys)))
theorem op_catL {X : Cx} : OpR X (binaryOp .Add) (rCatL X.K) := by
  intro pins s σ H x y v u Q I rx ry h
  obtain ⟨a, b, xs, ys, rfl, rfl, ha, hb, hz, q⟩ := h
  cases rx
  cases ry
  obtain ⟨its, r1, p1, _⟩ := I.list ha
  obtain ⟨its2, r2, p2, _⟩ := I.list hb
  refine wp_addL p1.isList p2.isList (by rw [← r1.length, ← r2.length]; exact hz) ?_
  exact ⟨.ref _, _, I.lnew (t' := s.toks) (r1.append r2) (by rw [List.length_append]; omega), rfl, q _ I.fresh⟩

/-! ### readings by the pure evaluator -/
def tE (K : PySem.W.Frag) (f : PEnv → Option (Bw × PEnv)) : TE := fun σ H Q => ∃ H0 M0 env T r, f env = some r ∧ SA K H0 M0 σ env T H ∧ ∀ v H', SA K H0 M0 σ r.2 (T ++ [(v, r.1)]) H' → Q v H'
def tTs (K : PySem.W.Frag) (f : PEnv → Option (Bool × PEnv)) : TT := fun σ H Q => ∃ H0 M0 env T r, f env = some r ∧ SA K H0 M0 σ env T H ∧ ∀ H', SA K H0 M0 σ r.2 T H' → Q r.1 H'
def tAs (K : PySem.W.Frag) (f : PEnv → Option (List Bw × PEnv)) : TA := fun σ H Q => ∃ H0 M0 env T r, f env = some r ∧ SA K H0 M0 σ env T H ∧ ∀ vs H', vs.length = r.1.length → SA K H0 M0 σ r.2 (T ++ vs.zip r.1) H' → Q vs H'
def tOs (K : PySem.W.Frag) (f : PEnv → Option (Option Int × PEnv)) : TO := fun σ H Q => ∃ H0 M0 env T r, f env = some r ∧ SA K H0 M0 σ env T H ∧ ∀ H', SA K H0 M0 σ r.2 T H' → Q r.1 H'

/-! ### operations -/
section
variable {X : Cx} {pins : List (Addr × Obj)} {s : Shared} {σ ρ : L2.St} {H H0 M0 M : Hp} {x y : V} {v u : Value} {Q : VK} {env : PEnv} {T : List (V × Bw)} {E : List (V × Sl)} {s1 s2 z : Sl}
theorem small_iff {i : Int} (h : small i = true) : -(2 ^ 64) < i ∧ i < 2 ^ 64 := of_decide_eq_true h
theorem op_bin {op : Operator} (I : Inv X pins σ H s) (rx : RelV x v) (ry : RelV y u) (h : SAx X.K H0 M0 ρ env T H E M) (hx : SlOk X.K H0 M H x s1) (hy : SlOk X.K H0 M H y s2) (e : bin2 op s1.pv s2.pv = some z)
    (k : ∀ v H', SA X.K H0 M0 ρ env (T ++ [(v, .t z)]) H' → Q v H') : wpAny (model X.prog X.w) X.A (binaryOp op v u) (EP X pins σ Q) X.xe s := by
  have fi : ∀ n : Int, z = .sh (.int n) → Q (.int n) H := fun n e => by subst e; exact k _ _ (h.push (.int n))
  unfold bin2 at e
  split at e
  · rename_i i j e1 e2
    cases e
    exact op_add pins s σ H x y v u Q I rx ry ⟨i, j, hx.int e1, hy.int e2, fi _ rfl⟩
  · rename_i a b e1 e2
    split at e
    · rename_i hl
      cases e
      exact op_add_str pins s σ H x y v u Q I rx ry ⟨a, b, hx.str e1, hy.str e2, le_line hl, k _ _ (h.push (.str _))⟩
    · cases e
  · rename_i xs ys e1 e2
    split at e
    · rename_i hl
      cases e
      obtain ⟨a, vs, rfl, h1, r1⟩ := hx.lst e1 h.same
      obtain ⟨b, ws, rfl, h2, r2⟩ := hy.lst e2 h.same
      exact op_catL pins s σ H _ _ v u Q I rx ry ⟨a, b, vs, ws, rfl, rfl, h1, h2, by rw [r1.length, r2.length]; exact le_line hl, fun p hp => k _ _ (h.lst hp (r1.append r2))⟩
    · cases e
  · rename_i xs ys e1 e2
    split at e
    · rename_i hl
      cases e
      obtain ⟨a, vs, rfl, h1, r1⟩ := hx.tup e1 h.same
      obtain ⟨b, ws, rfl, h2, r2⟩ := hy.tup e2 h.same
      refine op_catA pins s σ H _ _ v u Q I rx ry ⟨a, b, vs, ws, rfl, rfl, h1, h2, by rw [r1.length, r2.length]; exact le_line hl, fun z => ?_, fun z1 z2 => ?_, fun _ _ p hp => ?_⟩
      · subst z
        cases r1
        exact k _ _ (h.push (hy.sh e2 (fun _ z => by cases z)))
      · subst z2
        cases r2
        rw [List.append_nil] at k
        exact k _ _ (h.push (hx.sh e1 (fun _ z => by cases z)))
      · exact k _ _ (h.tup hp (r1.append r2))
    · cases e
  · rename_i i j e1 e2
    cases e
    exact op_sub pins s σ H x y v u Q I rx ry ⟨i, j, hx.int e1, hy.int e2, fi _ rfl⟩
  · rename_i i j e1 e2
    split at e
    · rename_i hl
      cases e
      refine op_mul pins s σ H x y v u Q I rx ry ⟨i, j, hx.int e1, hy.int e2, ?_, fi _ rfl⟩
      rcases Bool.or_eq_true_iff.mp hl with q | q
      · exact .inl (small_iff q)
      · exact .inr (small_iff q)
    · cases e
  · rename_i i j e1 e2
    split at e
    · rename_i hl
      cases e
      exact op_modN pins s σ H x y v u Q I rx ry ⟨i, j, hx.int e1, hy.int e2, hl, fi _ rfl⟩
    · cases e
  · rename_i i j e1 e2
    split at e
    · rename_i hl
      cases e
      exact op_fdivN pins s σ H x y v u Q I rx ry ⟨i, j, hx.int e1, hy.int e2, hl, fi _ rfl⟩
    · cases e
  · rename_i i j e1 e2
    split at e
    · rename_i hl
      cases e
      exact op_pow pins s σ H x y v u Q I rx ry ⟨i, j, hx.int e1, hy.int e2, hl, fi _ rfl⟩
    · cases e
  · rename_i i j e1 e2
    split at e
    · rename_i hl
      cases e
      exact op_shl pins s σ H x y v u Q I rx ry ⟨i, j, hx.int e1, hy.int e2, hl, fi _ rfl⟩
    · cases e
  · rename_i i j e1 e2
    split at e
    · rename_i hl
      cases e
      exact op_shr pins s σ H x y v u Q I rx ry ⟨i, j, hx.int e1, hy.int e2, hl, fi _ rfl⟩
    · cases e
  · rename_i i j e1 e2
    cases e
    exact op_and pins s σ H x y v u Q I rx ry ⟨i, j, hx.int e1, hy.int e2, fi _ rfl⟩
  · rename_i i j e1 e2
    cases e
    exact op_or pins s σ H x y v u Q I rx ry ⟨i, j, hx.int e1, hy.int e2, fi _ rfl⟩
  · rename_i i j e1 e2
    cases e
    exact op_xor pins s σ H x y v u Q I rx ry ⟨i, j, hx.int e1, hy.int e2, fi _ rfl⟩
  · cases e
theorem flV_ok {K : PySem.W.Frag} {x : V} {p : PV} {v : V} (h : Rep K M x p) (e : flV p = some v) : x = v ∧ flatV x = true := by
  cases h <;> simp [flV] at e <;> (subst e; exact ⟨rfl, rfl⟩)
theorem flVs_ok {K : PySem.W.Frag} : ∀ {xs : List V} {ps : List PV} {vs : List V}, Reps K M xs ps → flVs ps = some vs → xs = vs ∧ xs.all flatV = true
  | _, _, _, .nil, e => by simp [flVs] at e; subst e; exact ⟨rfl, rfl⟩
  | _, _, _, .cons h t, e => by
    simp only [flVs, Option.bind_eq_some_iff, Option.map_eq_some_iff] at e
    obtain ⟨v, e1, vs, e2, rfl⟩ := e
    obtain ⟨rfl, f1⟩ := flV_ok h e1
    obtain ⟨rfl, f2⟩ := flVs_ok t e2
    exact ⟨rfl, by simp [f1, f2]⟩
theorem flV_pv {s : Sl} {p : PV} {v : V} (e : s.pv = p) (h : flV p = some v) : ∀ ps, p ≠ .lst ps := fun ps z => by subst z; simp [flV] at h
theorem fin_b {σ : L2.St} {H : Hp} {s : Shared} {Q : VK} (b : Bool) (I : Inv X pins σ H s) (q : Q (.bl b) H) : EP X pins σ Q (.bool b) s := ⟨.bl b, H, I, rfl, q⟩
/-- what a value is as data -/
theorem eqS_ok {a b : PV} {c : Bool} (hx : Rep X.K M x a) (hy : Rep X.K M y b) (e : eqS a b = some c) : scal x y = true ∧ decide (x = y) = c := by
  cases hx <;> cases hy <;> simp only [eqS, Option.some.injEq, reduceCtorEq] at e <;> subst e <;> simp [scal]
mutual
theorem toD_ok {K : PySem.W.Frag} : ∀ {p : PV} {x : V} {d : PyData}, Rep K H x p → toD p = some d → Dp K H x d
  | _, _, _, .non, e => by unfold toD at e; cases e; exact .non
  | _, _, _, .bl b, e => by unfold toD at e; cases e; exact .bl b
  | _, _, _, .int i, e => by unfold toD at e; cases e; exact .int i
  | _, _, _, .str z, e => by unfold toD at e; cases e; exact .str z
  | .tup ps, _, _, .tup h r, e => by
    unfold toD at e
    simp only [Option.map_eq_some_iff] at e
    obtain ⟨ds, e1, rfl⟩ := e
    rw [List.mapM_subtype (g := fun p => toD p) (by simp)] at e1
    exact .tup h (toDs_ok r (by simpa using e1))
  | .lst ps, _, _, .lst h r, e => by
    unfold toD at e
    simp only [Option.map_eq_some_iff] at e
    obtain ⟨ds, e1, rfl⟩ := e
    rw [List.mapM_subtype (g := fun p => toD p) (by simp)] at e1
    exact .lst h (toDs_ok r (by simpa using e1))
theorem toDs_ok {K : PySem.W.Frag} : ∀ {ps : List PV} {xs : List V} {ds : List PyData}, Reps K H xs ps → ps.mapM toD = some ds → DpAll K H xs ds
  | _, _, _, .nil, e => by simp at e; subst e; exact .nil
  | _, _, _, .cons h r, e => by
    simp only [List.mapM_cons, Option.bind_eq_bind, Option.bind_eq_some_iff, Option.pure_def, Option.some.injEq] at e
    obtain ⟨d, e1, ds, e2, rfl⟩ := e
    exact .cons (toD_ok h e1) (toDs_ok r e2)
end
theorem eq2_ok (hu : X.A.units + 64 < cLine) (I : Inv X pins σ H s) (rx : RelV x v) (ry : RelV y u) (h : SAx X.K H0 M0 ρ env T H E M) (hx : SlOk X.K H0 M H x s1) (hy : SlOk X.K H0 M H y s2) {c : Bool} (e : eq2 s1.pv s2.pv = some c) :
    (∀ {Q : VK}, Q (.bl c) H → wpAny (model X.prog X.w) X.A (compareOp .Eq v u) (EP X pins σ Q) X.xe s) ∧ (∀ {Q : VK}, Q (.bl (!c)) H → wpAny (model X.prog X.w) X.A (compareOp .NotEq v u) (EP X pins σ Q) X.xe s) := by
  have hx' := hx.rep h.same
  have hy' := hy.rep h.same
  unfold eq2 at e
  split at e
  · rename_i b e1
    cases e
    obtain ⟨sc, de⟩ := eqS_ok hx' hy' e1
    constructor
    · intro Q q; exact op_eq pins s σ H x y v u Q I rx ry ⟨sc, by rw [de]; exact q⟩
    · intro Q q; exact op_ne pins s σ H x y v u Q I rx ry ⟨sc, by rw [de]; exact q⟩
  · unfold eqD at e
    split at e
    · split at e
      · rename_i d1 d2 e1 e2
        split at e
        · rename_i hs
          cases e
          simp only [Bool.and_eq_true] at hs
          constructor
          · intro Q q; exact op_eqD hu pins s σ H x y v u Q I rx ry ⟨d1, d2, toD_ok hx' e1, toD_ok hy' e2, hs.1, hs.2, q⟩
          · intro Q q; exact op_neD hu pins s σ H x y v u Q I rx ry ⟨d1, d2, toD_ok hx' e1, toD_ok hy' e2, hs.1, hs.2, q⟩
        · cases e
      · cases e
    · cases e
theorem in2_ok (I : Inv X pins σ H s) (rx : RelV x v) (ry : RelV y u) (h : SAx X.K H0 M0 ρ env T H E M) (hx : SlOk X.K H0 M H x s1) (hy : SlOk X.K H0 M H y s2) {c : Bool} (e : in2 s1.pv s2.pv = some c) :
    (∀ {Q : VK}, Q (.bl c) H → wpAny (model X.prog X.w) X.A (compareOp .In v u) (EP X pins σ Q) X.xe s) ∧ (∀ {Q : VK}, Q (.bl (!c)) H → wpAny (model X.prog X.w) X.A (compareOp .NotIn v u) (EP X pins σ Q) X.xe s) := by
  have hx' := hx.rep h.same
  unfold in2 at e
  split at e
  · rename_i a b e1 e2
    cases e
    constructor
    · intro Q q; exact op_in_str pins s σ H x y v u Q I rx ry ⟨a, b, hx.str e1, hy.str e2, q⟩
    · intro Q q; exact L2.op_notin_str pins s σ H x y v u Q I rx ry ⟨a, b, hx.str e1, hy.str e2, q⟩
  · rename_i ys e2
    simp only [Option.bind_eq_some_iff, Option.map_eq_some_iff] at e
    obtain ⟨w, e3, ws, e4, rfl⟩ := e
    obtain ⟨a, vs, rfl, h1, r1⟩ := hy.lst e2 h.same
    obtain ⟨rfl, f1⟩ := flV_ok hx' e3
    obtain ⟨rfl, f2⟩ := flVs_ok r1 e4
    constructor
    · intro Q q; exact op_in_seq pins s σ H x _ v u Q I rx ry ⟨a, vs, rfl, .inl h1, f1, f2, q⟩
    · intro Q q; exact op_notIn_seq pins s σ H x _ v u Q I rx ry ⟨a, vs, rfl, .inl h1, f1, f2, q⟩
  · rename_i ys e2
    simp only [Option.bind_eq_some_iff, Option.map_eq_some_iff] at e
    obtain ⟨w, e3, ws, e4, rfl⟩ := e
    obtain ⟨a, vs, rfl, h1, r1⟩ := hy.tup e2 h.same
    obtain ⟨rfl, f1⟩ := flV_ok hx' e3
    obtain ⟨rfl, f2⟩ := flVs_ok r1 e4
    constructor
    · intro Q q; exact op_in_seq pins s σ H x _ v u Q I rx ry ⟨a, vs, rfl, .inr h1, f1, f2, q⟩
    · intro Q q; exact op_notIn_seq pins s σ H x _ v u Q I rx ry ⟨a, vs, rfl, .inr h1, f1, f2, q⟩
  · cases e
theorem op_cmp {op : CmpOp} (hu : X.A.units + 64 < cLine) (I : Inv X pins σ H s) (rx : RelV x v) (ry : RelV y u) (h : SAx X.K H0 M0 ρ env T H E M) (hx : SlOk X.K H0 M H x s1) (hy : SlOk X.K H0 M H y s2) {c : Bool} (e : cmp2 op s1.pv s2.pv = some c)
    (k : Q (.bl c) H) : wpAny (model X.prog X.w) X.A (compareOp op v u) (EP X pins σ Q) X.xe s := by
  unfold cmp2 at e
  split at e
  · exact (eq2_ok hu I rx ry h hx hy e).1 k
  · simp only [Option.map_eq_some_iff] at e
    obtain ⟨c', e, rfl⟩ := e
    exact (eq2_ok hu I rx ry h hx hy e).2 k
  · rename_i i j e1 e2
    cases e
    exact op_lt pins s σ H x y v u Q I rx ry ⟨i, j, hx.int e1, hy.int e2, k⟩
  · rename_i i j e1 e2
    cases e
    exact op_le pins s σ H x y v u Q I rx ry ⟨i, j, hx.int e1, hy.int e2, k⟩
  · rename_i i j e1 e2
    cases e
    exact op_gt pins s σ H x y v u Q I rx ry ⟨i, j, hx.int e1, hy.int e2, k⟩
  · rename_i i j e1 e2
    cases e
    exact op_ge pins s σ H x y v u Q I rx ry ⟨i, j, hx.int e1, hy.int e2, k⟩
  · rename_i e2
    have hx' := hx.rep h.same
    refine op_isN pins s σ H x y v u Q I rx ry ⟨hy.non e2, ?_⟩
    generalize s1.pv = q1 at hx' e
    cases hx' <;> simp_all
  · rename_i e2
    have hx' := hx.rep h.same
    refine op_notN pins s σ H x y v u Q I rx ry ⟨hy.non e2, ?_⟩
    generalize s1.pv = q1 at hx' e
    cases hx' <;> simp_all
  · exact (in2_ok I rx ry h hx hy e).1 k
  · simp only [Option.map_eq_some_iff] at e
    obtain ⟨c', e, rfl⟩ := e
    exact (in2_ok I rx ry h hx hy e).2 k
  · cases e
theorem tru_of (h : SAx X.K H0 M0 ρ env T H E M) (hx : SlOk X.K H0 M H x s1) {c : Bool} (e : truth s1.pv = some c) : TruV X.K x H c := by
  unfold truth at e
  split at e
  · rename_i e1; cases e; rw [hx.non e1]; exact rfl
  · rename_i b e1; cases e; rw [hx.bl e1]; exact rfl
  · rename_i b e1; cases e; rw [hx.int e1]; exact rfl
  · rename_i z e1
    split at e
    · rename_i hl; cases e; rw [hx.str e1]; exact ⟨le_line hl, rfl⟩
    · cases e
  · rename_i xs e1
    cases e
    obtain ⟨a, vs, rfl, h1, r1⟩ := hx.lst e1 h.same
    refine .inl ⟨vs, h1, ?_⟩
    cases r1 <;> rfl
  · rename_i xs e1
    cases e
    obtain ⟨a, vs, rfl, h1, r1⟩ := hx.tup e1 h.same
    refine .inr (.inl ⟨vs, h1, ?_⟩)
    cases r1 <;> rfl
theorem atI_reps {K : PySem.W.Frag} {vs : List V} {ps : List PV} {i : Int} {p : PV} (r : Reps K M vs ps) (e : atI ps i = some p) : ∃ v, atI vs i = some v ∧ Rep K M v p := by
  unfold atI at e ⊢
  rw [r.length]
  cases q : ixN ps.length i with
  | none => rw [q] at e; cases e
  | some j =>
    rw [q] at e
    exact r.get e
theorem op_ix (value slice : Expr) (I : Inv X pins σ H s) (rx : RelV x v) (ry : RelV y u) (h : SAx X.K H0 M0 ρ env T H E M) (hx : SlOk X.K H0 M H x s1) (hy : SlOk X.K H0 M H y s2) {p : PV} (e : ix2 s1.pv s2.pv = some p)
    (hs : subscripted slice false v u = operate [v, u] (getItem v u)) (k : ∀ v H', SA X.K H0 M0 ρ env (T ++ [(v, .t (.sh p))]) H' → Q v H') : wpAny (model X.prog X.w) X.A (subscriptTail value slice v u) (EP X pins σ Q) X.xe s := by
  unfold ix2 at e
  split at e
  · rename_i xs i e1 e2
    obtain ⟨a, vs, rfl, h1, r1⟩ := hx.lst e1 h.same
    obtain ⟨w, e3, r3⟩ := atI_reps r1 e
    exact ix_list value slice pins s σ H _ y v u Q I rx ry ⟨a, vs, i, w, rfl, hy.int e2, h1, e3, k _ _ (h.push r3)⟩ hs
  · rename_i xs i e1 e2
    obtain ⟨a, vs, rfl, h1, r1⟩ := hx.tup e1 h.same
    obtain ⟨w, e3, r3⟩ := atI_reps r1 e
    exact ix_tup value slice pins s σ H _ y v u Q I rx ry ⟨a, vs, i, w, rfl, hy.int e2, h1, e3, k _ _ (h.push r3)⟩ hs
  · rename_i z i e1 e2
    split at e
    · rename_i hl
      simp only [Option.map_eq_some_iff] at e
      obtain ⟨c, e3, rfl⟩ := e
      exact ix_str value slice pins s σ H x y v u Q I rx ry ⟨z, i, c, hx.str e1, hy.int e2, le_line hl, e3, k _ _ (h.push (.str _))⟩ hs
    · cases e
  · cases e
theorem cut_reps {K : PySem.W.Frag} {vs : List V} {ps : List PV} (lo hi : Option Int) (r : Reps K M vs ps) : Reps K M (cutV vs lo hi) (cutP ps lo hi) := by
  unfold cutV cutP
  rw [r.length]
  exact (r.drop _).take _
theorem op_slc {vl vu : Value} {lo hi : Option Int} {sl : Addr} (I : Inv X pins σ H s) (rx : RelV x v) (hs : s.heap.IsSliceOf sl vl vu .none) (pl : IsPart vl lo) (pu : IsPart vu hi) (h : SAx X.K H0 M0 ρ env T H E M) (hx : SlOk X.K H0 M H x s1) (e : slc3 s1.pv lo hi = some z)
    (k : ∀ v H', SA X.K H0 M0 ρ env (T ++ [(v, .t z)]) H' → Q v H') :
    ∃ T id, typeLookup (.type T) "__getitem__" = pure (some (.builtin id)) ∧ s.TypeIs v T ∧ wpAny (model X.prog X.w) X.A (getItem v (.ref sl)) (EP X pins σ Q) X.xe s := by
  unfold slc3 at e
  split at e
  · rename_i xs e1
    cases e
    obtain ⟨a, vs, rfl, h1, r1⟩ := hx.lst e1 h.same
    exact sl_list pins s σ H _ v vl vu lo hi sl Q I rx hs pl pu ⟨a, vs, rfl, h1, fun p hp => k _ _ (h.lst hp (cut_reps lo hi r1))⟩
  · rename_i xs e1
    cases e
    obtain ⟨a, vs, rfl, h1, r1⟩ := hx.tup e1 h.same
    refine sl_tupA pins s σ H _ v vl vu lo hi sl Q I rx hs pl pu ⟨a, vs, rfl, h1, fun ⟨z1, z2⟩ => ?_, fun _ p hp => k _ _ (h.tup hp (cut_reps lo hi r1))⟩
    have e3 : cutP xs lo hi = xs := by
      unfold cutP
      rw [r1.length] at z1 z2
      rw [z1, z2]
      simp
    rw [e3] at k
    exact k _ _ (h.push (hx.sh e1 (fun _ z => by cases z)))
  · rename_i a e1
    split at e
    · rename_i hl
      cases e
      exact sl_str pins s σ H x v vl vu lo hi sl Q I rx hs pl pu ⟨a, hx.str e1, le_line hl, k _ _ (h.push (.str _))⟩
    · cases e
  · cases e
end

/-! ### built-in functions and types -/
inductive SlsOk (K : PySem.W.Frag) (H0 M H : Hp) : List V → List PV → Prop
  | nil : SlsOk K H0 M H [] []
  | cons {v : V} {s : Sl} {vs : List V} {ps : List PV} : SlOk K H0 M H v s → SlsOk K H0 M H vs ps → SlsOk K H0 M H (v :: vs) (s.pv :: ps)
theorem SAx.gets {K : PySem.W.Frag} {H0 M0 M H : Hp} {σ : L2.St} {env : PEnv} {T : List (V × Bw)} {E : List (V × Sl)} (h : SAx K H0 M0 σ env T H E M) :
    ∀ {xs : List Bw} {vs : List V} {ps : List PV}, vs.length = xs.length → (∀ e ∈ vs.zip xs, e ∈ T) → pvbs env xs = some ps → SlsOk K H0 M H vs ps
  | [], vs, ps, hl, _, e => by
    have : vs = [] := by simpa using hl
    subst this
    simp [pvbs] at e; subst e; exact .nil
  | x :: xs, [], ps, hl, _, e => by simp at hl
  | x :: xs, v :: vs, ps, hl, hm, e => by
    simp only [pvbs, Option.bind_eq_some_iff, Option.map_eq_some_iff] at e
    obtain ⟨p, e1, qs, e2, rfl⟩ := e
    obtain ⟨s, e3, rfl⟩ := pvb_sl e1
    exact .cons (h.get (hm (v, x) (by simp)) e3) (h.gets (by simpa using hl) (fun q hq => hm q (by simp [hq])) e2)
theorem SlsOk.one {K : PySem.W.Frag} {H0 M H : Hp} {vs : List V} {p : PV} (h : SlsOk K H0 M H vs [p]) : ∃ v s, vs = [v] ∧ SlOk K H0 M H v s ∧ s.pv = p := by
  cases h with
  | cons a b => cases b; exact ⟨_, _, rfl, a, rfl⟩
theorem SlsOk.two {K : PySem.W.Frag} {H0 M H : Hp} {vs : List V} {p q : PV} (h : SlsOk K H0 M H vs [p, q]) : ∃ v s w t, vs = [v, w] ∧ SlOk K H0 M H v s ∧ s.pv = p ∧ SlOk K H0 M H w t ∧ t.pv = q := by
  cases h with
  | cons a b =>
    cases b with
    | cons c d => cases d; exact ⟨_, _, _, _, rfl, a, rfl, c, rfl⟩
theorem asInts_ok : ∀ {ps : List PV} {ns : List Int}, asInts ps = some ns → ps = ns.map PV.int
  | [], _, e => by simp [asInts] at e; subst e; rfl
  | p :: ps, ns, e => by
    cases p <;> simp [asInts] at e
    obtain ⟨ms, e, rfl⟩ := e
    simp [asInts_ok e]
theorem asBls_ok : ∀ {ps : List PV} {ns : List Bool}, asBls ps = some ns → ps = ns.map PV.bl
  | [], _, e => by simp [asBls] at e; subst e; rfl
  | p :: ps, ns, e => by
    cases p <;> simp [asBls] at e
    obtain ⟨ms, e, rfl⟩ := e
    simp [asBls_ok e]
theorem asStrs_ok : ∀ {ps : List PV} {ns : List Str}, asStrs ps = some ns → ps = ns.map PV.str
  | [], _, e => by simp [asStrs] at e; subst e; rfl
  | p :: ps, ns, e => by
    cases p <;> simp [asStrs] at e
    obtain ⟨ms, e, rfl⟩ := e
    simp [asStrs_ok e]
theorem ins_perm (x : Int) : ∀ l : List Int, (isortI.ins x l).Perm (x :: l)
  | [] => .refl _
  | y :: ys => by
    unfold isortI.ins
    split
    · exact .refl _
    · exact ((ins_perm x ys).cons y).trans (.swap x y ys)
theorem isortI_perm : ∀ l : List Int, (isortI l).Perm l
  | [] => .refl _
  | x :: xs => (ins_perm x _).trans ((isortI_perm xs).cons x)
theorem ins_sorted (x : Int) : ∀ {l : List Int}, l.Pairwise (· ≤ ·) → (isortI.ins x l).Pairwise (· ≤ ·)
  | [], _ => by simp [isortI.ins]
  | y :: ys, h => by
    unfold isortI.ins
    split
    · rename_i hxy
      refine List.pairwise_cons.mpr ⟨fun z hz => ?_, h⟩
      rcases List.mem_cons.mp hz with rfl | hz
      · exact hxy
      · exact Int.le_trans hxy ((List.pairwise_cons.mp h).1 z hz)
    · rename_i hxy
      refine List.pairwise_cons.mpr ⟨fun z hz => ?_, ins_sorted x (List.pairwise_cons.mp h).2⟩
      rcases List.mem_cons.mp ((ins_perm x ys).mem_iff.mp hz) with rfl | hz
      · omega
      · exact (List.pairwise_cons.mp h).1 z hz
theorem isortI_sorted : ∀ l : List Int, (isortI l).Pairwise (· ≤ ·)
  | [] => .nil
  | x :: xs => ins_sorted x (isortI_sorted xs)
theorem sorted_uniq : ∀ {l l' : List Int}, l.Perm l' → l.Pairwise (· ≤ ·) → l'.Pairwise (· ≤ ·) → l = l'
  | [], l', p, _, _ => (List.nil_perm.mp p).symm
  | x :: xs, [], p, _, _ => by simpa using p.length_eq
  | x :: xs, y :: ys, p, h, h' => by
    have hx : x ∈ y :: ys := p.mem_iff.mp (by simp)
    have hy : y ∈ x :: xs := p.mem_iff.mpr (by simp)
    have e : x = y := by
      rcases List.mem_cons.mp hx with e | hx
      · exact e
      · rcases List.mem_cons.mp hy with e | hy
        · exact e.symm
        · have a := (List.pairwise_cons.mp h).1 y hy
          have b := (List.pairwise_cons.mp h').1 x hx
          omega
    subst e
    rw [sorted_uniq ((List.perm_cons x).mp p) (List.pairwise_cons.mp h).2 (List.pairwise_cons.mp h').2]
def bTypes : List String := ["int", "str", "list", "tuple"]
def bFuns : List String := ["len", "sum", "all", "any", "abs", "max", "min", "sorted"]
def bv (f : String) : Value := if bTypes.contains f then .type f else .builtin f
theorem boot_ok {f : String} (h : (bTypes ++ bFuns).contains f = true) : bootBuiltins (f : Str) = some (bv f) := by
  simp only [bTypes, bFuns, List.cons_append, List.nil_append, List.contains_cons, List.contains_nil, Bool.or_eq_true, beq_iff_eq, Bool.or_false] at h
  rcases h with rfl | rfl | rfl | rfl | rfl | rfl | rfl | rfl | rfl | rfl | rfl | rfl <;> decide +kernel
section
variable {X : Cx} {pins : List (Addr × Obj)} {s : Shared} {σ ρ : L2.St} {H H0 M0 M : Hp} {xs : List V} {us : List Value} {Q : VK} {env : PEnv} {T : List (V × Bw)} {E : List (V × Sl)} {z : Sl}
theorem op_blt {f : String} {ps : List PV} (hc : X.calm = true) (I : Inv X pins σ H s) (r : Vals xs us) (h : SAx X.K H0 M0 ρ env T H E M) (hx : SlsOk X.K H0 M H xs ps) (e : blt2 f ps = some z)
    (k : ∀ v H', SA X.K H0 M0 ρ env (T ++ [(v, .t z)]) H' → Q v H') : wpAny (model X.prog X.w) X.A (call (bv f) us) (EP X pins σ Q) X.xe s := by
  have fi : ∀ n : Int, z = .sh (.int n) → Q (.int n) H := fun n e => by subst e; exact k _ _ (h.push (.int n))
  have fb : ∀ n : Bool, z = .sh (.bl n) → Q (.bl n) H := fun n e => by subst e; exact k _ _ (h.push (.bl n))
  have fs : ∀ n : Str, z = .sh (.str n) → Q (.str n) H := fun n e => by subst e; exact k _ _ (h.push (.str n))
  unfold blt2 at e
  split at e
  · obtain ⟨v, t, rfl, hv, e1⟩ := hx.one
    cases e
    obtain ⟨a, vs, rfl, h1, r1⟩ := hv.lst e1 h.same
    exact call_len pins s σ H _ us Q I r ⟨.ref a, vs.length, rfl, .inl ⟨vs, h1, rfl⟩, fi _ (by rw [r1.length])⟩
  · obtain ⟨v, t, rfl, hv, e1⟩ := hx.one
    cases e
    obtain ⟨a, vs, rfl, h1, r1⟩ := hv.tup e1 h.same
    exact call_len pins s σ H _ us Q I r ⟨.ref a, vs.length, rfl, .inr ⟨vs, h1, rfl⟩, fi _ (by rw [r1.length])⟩
  · obtain ⟨v, t, rfl, hv, e1⟩ := hx.one
    split at e
    · rename_i hl
      cases e
      rw [hv.str e1] at r
      exact call_len_str pins s σ H _ us Q I r ⟨_, rfl, le_line hl, fi _ rfl⟩
    · cases e
  · obtain ⟨v, t, rfl, hv, e1⟩ := hx.one
    simp only [Option.map_eq_some_iff] at e
    obtain ⟨ns, e2, rfl⟩ := e
    obtain ⟨a, vs, rfl, h1, r1⟩ := hv.lst e1 h.same
    rw [asInts_ok e2] at r1
    rw [r1.ints] at h1
    exact cr_sum hc pins s σ H _ us Q I r ⟨a, ns, rfl, h1, fi _ rfl⟩
  · obtain ⟨v, t, rfl, hv, e1⟩ := hx.one
    simp only [Option.map_eq_some_iff] at e
    obtain ⟨ns, e2, rfl⟩ := e
    obtain ⟨a, vs, rfl, h1, r1⟩ := hv.lst e1 h.same
    rw [asBls_ok e2] at r1
    rw [r1.bls] at h1
    exact cr_all hc pins s σ H _ us Q I r ⟨a, ns, rfl, h1, fb _ rfl⟩
  · obtain ⟨v, t, rfl, hv, e1⟩ := hx.one
    simp only [Option.map_eq_some_iff] at e
    obtain ⟨ns, e2, rfl⟩ := e
    obtain ⟨a, vs, rfl, h1, r1⟩ := hv.lst e1 h.same
    rw [asBls_ok e2] at r1
    rw [r1.bls] at h1
    exact cr_any hc pins s σ H _ us Q I r ⟨a, ns, rfl, h1, fb _ rfl⟩
  · obtain ⟨v, t, rfl, hv, e1⟩ := hx.one
    cases e
    rw [hv.int e1] at r
    exact call_abs pins s σ H _ us Q I r ⟨_, rfl, fi _ rfl⟩
  · obtain ⟨v, t, w, t', rfl, hv, e1, hw, e2⟩ := hx.two
    cases e
    rw [hv.int e1, hw.int e2] at r
    exact call_max2 hc pins s σ H _ us Q I r ⟨_, _, rfl, fi _ rfl⟩
  · obtain ⟨v, t, w, t', rfl, hv, e1, hw, e2⟩ := hx.two
    cases e
    rw [hv.int e1, hw.int e2] at r
    exact call_min2 hc pins s σ H _ us Q I r ⟨_, _, rfl, fi _ rfl⟩
  · obtain ⟨v, t, rfl, hv, e1⟩ := hx.one
    cases e
    rw [hv.int e1] at r
    exact call_int1 pins s σ H _ us Q I r (.inl ⟨_, rfl, fi _ rfl⟩)
  · obtain ⟨v, t, rfl, hv, e1⟩ := hx.one
    cases e
    rw [hv.bl e1] at r
    exact call_int1 pins s σ H _ us Q I r (.inr ⟨_, rfl, fi _ rfl⟩)
  · obtain ⟨v, t, rfl, hv, e1⟩ := hx.one
    split at e
    · rename_i hl
      simp only [Option.map_eq_some_iff] at e
      obtain ⟨n, e2, rfl⟩ := e
      rw [hv.str e1] at r
      exact call_int_str pins s σ H _ us Q I r ⟨_, n, rfl, e2, hl, fi _ rfl⟩
    · cases e
  · obtain ⟨v, t, rfl, hv, e1⟩ := hx.one
    split at e
    · rename_i hl
      cases e
      rw [hv.int e1] at r
      exact call_str_int pins s σ H _ us Q I r ⟨_, rfl, hl, fs _ rfl⟩
    · cases e
  · obtain ⟨v, t, rfl, hv, e1⟩ := hx.one
    cases e
    obtain ⟨a, vs, rfl, h1, r1⟩ := hv.lst e1 h.same
    exact call_list_of pins s σ H _ us Q I r ⟨a, vs, rfl, .inl h1, fun p hp => k _ _ (h.lst hp r1)⟩
  · obtain ⟨v, t, rfl, hv, e1⟩ := hx.one
    cases e
    obtain ⟨a, vs, rfl, h1, r1⟩ := hv.tup e1 h.same
    exact call_list_of pins s σ H _ us Q I r ⟨a, vs, rfl, .inr h1, fun p hp => k _ _ (h.lst hp r1)⟩
  · obtain ⟨v, t, rfl, hv, e1⟩ := hx.one
    cases e
    obtain ⟨a, vs, rfl, h1, r1⟩ := hv.lst e1 h.same
    exact call_tuple_of pins s σ H _ us Q I r ⟨a, vs, rfl, .inl ⟨h1, fun p hp => k _ _ (h.tup hp r1)⟩⟩
  · obtain ⟨v, t, rfl, hv, e1⟩ := hx.one
    cases e
    obtain ⟨a, vs, rfl, h1, r1⟩ := hv.tup e1 h.same
    exact call_tuple_of pins s σ H _ us Q I r ⟨a, vs, rfl, .inr ⟨h1, k _ _ (h.push (hv.sh e1 (fun _ z => by cases z)))⟩⟩
  · obtain ⟨v, t, rfl, hv, e1⟩ := hx.one
    simp only [Option.map_eq_some_iff] at e
    obtain ⟨ns, e2, rfl⟩ := e
    obtain ⟨a, vs, rfl, h1, r1⟩ := hv.lst e1 h.same
    rw [asInts_ok e2] at r1
    rw [r1.ints] at h1
    refine cr_sortedI pins s σ H _ us Q I r ⟨a, ns, rfl, h1, fun ns' p p1 p2 hp => ?_⟩
    have e3 : ns' = isortI ns := sorted_uniq (p1.trans (isortI_perm ns).symm) p2 (isortI_sorted ns)
    subst e3
    exact k _ _ (h.lst hp (Reps.of_ints _))
  · cases e
theorem ty_of {x : V} {t : Sl} {b : Bool} {T : String} {T' : List (V × Bw)} (h : SAx X.K H0 M0 ρ env T' H E M) (hx : SlOk X.K H0 M H x t) (e : isi2 t.pv T = some b) : ∃ ty : String, TyX X.K H x (.type ty) ∧ kitB ty T = some b := by
  unfold isi2 at e
  split at e
  · rename_i e1; rw [hx.non e1]; exact ⟨_, .base .non, e⟩
  · rename_i e1; rw [hx.bl e1]; exact ⟨_, .base (.bl _), e⟩
  · rename_i e1; rw [hx.int e1]; exact ⟨_, .base (.int _), e⟩
  · rename_i e1; rw [hx.str e1]; exact ⟨_, .base (.str _), e⟩
  · rename_i e1
    obtain ⟨a, vs, rfl, h1, r1⟩ := hx.lst e1 h.same
    rcases h1 with (h1 | ⟨o, h1⟩) | ⟨o, its, n, h1, h2, _⟩
    · exact ⟨_, .base (.lst h1), e⟩
    · exact ⟨_, .base (.frz h1), e⟩
    · exact ⟨_, .kList h1 h2, e⟩
  · rename_i e1
    obtain ⟨a, vs, rfl, h1, r1⟩ := hx.tup e1 h.same
    rcases h1 with (h1 | ⟨o, h1⟩) | ⟨o, its, n, h1, h2, _⟩
    · exact ⟨_, .base (.tup h1), e⟩
    · exact ⟨_, .fTuple h1, e⟩
    · exact ⟨_, .kTuple h1 h2, e⟩
end
end Mir
/-! Mir5: each expression, test, walk does what the pure reading says. -/
namespace Mir
open PySem PySem.Spec PyProof.Rows L2

section
variable {X : Cx} {K : PySem.W.Frag} {a b c : Expr} {pos : Pos} {f g h : PEnv → Option (Bw × PEnv)}

theorem ob {α β : Type} {x : Option α} {k : α → Option β} {r : β} (e : x.bind k = some r) : ∃ y, x = some y ∧ k y = some r := Option.bind_eq_some_iff.mp e
theorem om {α β : Type} {x : Option α} {k : α → β} {r : β} (e : x.map k = some r) : ∃ y, x = some y ∧ k y = r := Option.map_eq_some_iff.mp e

/-- two expressions one after the other, in the state -/
theorem tE_intro {F : PEnv → Option (Bw × PEnv)} {σ : L2.St} {H : Hp} {Q : VK} {H0 M0 : Hp} {env : PEnv} {T : List (V × Bw)} {r : Bw × PEnv} (e : F env = some r) (sa : SA K H0 M0 σ env T H) (k : ∀ v H', SA K H0 M0 σ r.2 (T ++ [(v, r.1)]) H' → Q v H') : tE K F σ H Q :=
  ⟨H0, M0, env, T, r, e, sa, k⟩
theorem se_var {i : Nat} {x : Str} (hN : X.N[i]? = some x) (hv : Vis X.env.scope x) (hd : (x == ("__debug__" : Str)) = false) (hcd : (x == ("__classdict__" : Str)) = false) :
    PE X (.Name x pos) (tE X.K fun env => match env.getD i none with | some (.sh p) => some (.t (.sh p), env) | some (.own _) => some (.b i, env) | none => none) := by
  refine PE_imp (pe_var hN hv hd hcd) fun σ H Q q => ?_
  obtain ⟨H0, M0, env, T, r, e, sa, k⟩ := q
  obtain ⟨E, M, sx⟩ := sa
  dsimp only at e
  cases q : env.getD i none with
  | none => rw [q] at e; cases e
  | some s =>
    obtain ⟨v, h1, h2⟩ := sx.var q
    rw [q] at e
    cases s with
    | sh p => cases e; exact ⟨v, h1, k v H (sx.push h2)⟩
    | own xs => cases e; exact ⟨v, h1, k v H (sx.pushB h1 (by rw [q]; rfl))⟩
/-- a constant -/
theorem se_const {e : Expr} {v : V} {p : PV} (hc : PE X e (tC v)) (r : ∀ M, Rep X.K M v p) : PE X e (tE X.K fun env => some (.t (.sh p), env)) := by
  refine PE_imp hc fun σ H Q q => ?_
  obtain ⟨H0, M0, env, T, r', e, sa, k⟩ := q
  cases e
  obtain ⟨E, M, sx⟩ := sa
  exact k v H (sx.push (r M))
theorem mem2 {T : List (V × Bw)} {x y : V × Bw} : x ∈ T ++ [x] ++ [y] ∧ y ∈ T ++ [x] ++ [y] := by simp
/-- an operation on two values at hand, then both leave -/
theorem se_op {r : R2} {G : PEnv → Bw → Bw → Option (Bw × PEnv)} (ho : ∀ {t : Expr} , True)
    (hr : ∀ (σ : L2.St) (H H0 M0 : Hp) (env : PEnv) (T : List (V × Bw)) (x y : V) (bx bw : Bw) (q : Bw × PEnv) (Q : VK), SA X.K H0 M0 σ env (T ++ [(x, bx)] ++ [(y, bw)]) H → G env bx bw = some q → (∀ v H', SA X.K H0 M0 σ q.2 (T ++ [(v, q.1)]) H' → Q v H') → r x y H Q) :
    ∀ σ H Q, tE X.K (fun env => (f env).bind fun r1 => (g r1.2).bind fun q => G q.2 r1.1 q.1) σ H Q → tOp r (tE X.K f) (tE X.K g) σ H Q := fun σ H Q q => by
  obtain ⟨H0, M0, env, T, r', e, sa, k⟩ := q
  obtain ⟨r1, e1, e⟩ := ob e
  obtain ⟨r2, e2, e⟩ := ob e
  exact ⟨H0, M0, env, T, r1, e1, sa, fun x H1 sa1 => ⟨H0, M0, r1.2, _, r2, e2, sa1, fun y H2 sa2 => hr σ H2 H0 M0 r2.2 T x y r1.1 r2.1 r' Q sa2 e k⟩⟩
/-- what an operation's rule wants: by the values that stand -/
def rOp (X : Cx) (fv : Value → Value → Sem Value) : R2 := fun x y H Q => ∀ (pins : List (Addr × Obj)) (s : Shared) (σ : L2.St) (v u : Value), Inv X pins σ H s → RelV x v → RelV y u → wpAny (model X.prog X.w) X.A (fv v u) (EP X pins σ Q) X.xe s
theorem op_r (fv : Value → Value → Sem Value) : OpR X fv (rOp X fv) := fun pins s σ H x y v u Q I rx ry q => q pins s σ v u I rx ry
end

section
variable {X : Cx} {a b c : Expr} {pos : Pos} {f g h : PEnv → Option (Bw × PEnv)}
theorem SA.dropTo {K : PySem.W.Frag} {H0 M0 H : Hp} {σ : L2.St} {env : PEnv} {T A : List (V × Bw)} {e : V × Bw} (h : SA K H0 M0 σ env (T ++ A ++ [e]) H) : SA K H0 M0 σ env (T ++ [e]) H := h.mid
theorem se_bin {op : Operator} (ha : PE X a (tE X.K f)) (hb : PE X b (tE X.K g)) :
    PE X (.BinOp a op b pos) (tE X.K fun env => (f env).bind fun r => (g r.2).bind fun q => (pvb q.2 r.1).bind fun x => (pvb q.2 q.1).bind fun y => (bin2 op x y).map fun z => (.t z, q.2)) := by
  refine PE_imp (pe_op (op_r (binaryOp op)) ha hb) ?_
  refine se_op (r := rOp X (binaryOp op)) (G := fun env bx bw => (pvb env bx).bind fun x => (pvb env bw).bind fun y => (bin2 op x y).map fun z => (.t z, env)) trivial ?_
  intro σ H H0 M0 env T x y bx bw q Q sa e k pins s σ' v u I rx ry
  obtain ⟨p1, e1, e⟩ := ob e
  obtain ⟨p2, e2, e⟩ := ob e
  obtain ⟨z, e3, rfl⟩ := om e
  obtain ⟨E, M, sx⟩ := sa
  obtain ⟨s1, g1, rfl⟩ := pvb_sl e1
  obtain ⟨s2, g2, rfl⟩ := pvb_sl e2
  exact op_bin I rx ry sx (sx.get mem2.1 g1) (sx.get mem2.2 g2) e3 fun v H' sa' => k v H' (by have := SA.mid (T := T) (A := [(x, bx)] ++ [(y, bw)]) (B := [(v, .t z)]) (by simpa using sa'); exact this)
theorem se_cmp {op : CmpOp} (hu : X.A.units + 64 < cLine) (ha : PE X a (tE X.K f)) (hb : PE X b (tE X.K g)) (hm : behindInMarks op b = false) :
    PE X (.Compare a [op] [b] pos) (tE X.K fun env => (f env).bind fun r => (g r.2).bind fun q => (pvb q.2 r.1).bind fun x => (pvb q.2 q.1).bind fun y => (cmp2 op x y).map fun z => (.t (.sh (.bl z)), q.2)) := by
  refine PE_imp (pe_cmpR (op_r (compareOp op)) ha hb hm) ?_
  refine se_op (r := rOp X (compareOp op)) (G := fun env bx bw => (pvb env bx).bind fun x => (pvb env bw).bind fun y => (cmp2 op x y).map fun z => (.t (.sh (.bl z)), env)) trivial ?_
  intro σ H H0 M0 env T x y bx bw q Q sa e k pins s σ' v u I rx ry
  obtain ⟨p1, e1, e⟩ := ob e
  obtain ⟨p2, e2, e⟩ := ob e
  obtain ⟨z, e3, rfl⟩ := om e
  obtain ⟨E, M, sx⟩ := sa
  obtain ⟨s1, g1, rfl⟩ := pvb_sl e1
  obtain ⟨s2, g2, rfl⟩ := pvb_sl e2
  refine op_cmp hu I rx ry sx (sx.get mem2.1 g1) (sx.get mem2.2 g2) e3 (k _ _ ?_)
  have := (sx.push (.bl z) : SA X.K H0 M0 σ env _ H)
  exact SA.mid (T := T) (A := [(x, bx)] ++ [(y, bw)]) (by simpa using this)
theorem st_cmp {op : CmpOp} (hu : X.A.units + 64 < cLine) (ha : PE X a (tE X.K f)) (hb : PE X b (tE X.K g)) (hm : behindInMarks op b = false) :
    PT X (.Compare a [op] [b] pos) (tTs X.K fun env => (f env).bind fun r => (g r.2).bind fun q => (pvb q.2 r.1).bind fun x => (pvb q.2 q.1).bind fun y => (cmp2 op x y).map fun z => (z, q.2)) := by
  refine PT_imp (pt_cmpR (op_r (compareOp op)) ha hb hm) fun σ H Q q => ?_
  obtain ⟨H0, M0, env, T, r', e, sa, k⟩ := q
  obtain ⟨r1, e1, e⟩ := ob e
  obtain ⟨r2, e2, e⟩ := ob e
  obtain ⟨p1, e3, e⟩ := ob e
  obtain ⟨p2, e4, e⟩ := ob e
  obtain ⟨z, e5, rfl⟩ := om e
  refine ⟨H0, M0, env, T, r1, e1, sa, fun x H1 sa1 => ⟨H0, M0, r1.2, _, r2, e2, sa1, fun y H2 sa2 => ?_⟩⟩
  intro pins s σ' v u I rx ry
  obtain ⟨E, M, sx⟩ := id sa2
  obtain ⟨s1, g1, rfl⟩ := pvb_sl e3
  obtain ⟨s2, g2, rfl⟩ := pvb_sl e4
  refine op_cmp hu I rx ry sx (sx.get mem2.1 g1) (sx.get mem2.2 g2) e5 ⟨z, rfl, k _ ?_⟩
  exact (sa2.left).left
/-- a op b op' c -/
theorem chain_core {op op' : CmpOp} (hu : X.A.units + 64 < cLine) {σ : L2.St} {H : Hp} {Q : VK} {H0 M0 : Hp} {env : PEnv} {T : List (V × Bw)} {r' : Bool × PEnv} (sa : SA X.K H0 M0 σ env T H)
    (e : ((f env).bind fun r => (g r.2).bind fun q => (pvb q.2 r.1).bind fun x => (pvb q.2 q.1).bind fun y => (cmp2 op x y).bind fun z =>
      if z then (h q.2).bind fun w => (pvb w.2 q.1).bind fun y' => (pvb w.2 w.1).bind fun u => (cmp2 op' y' u).map fun z' => (z', w.2) else some (false, q.2)) = some r')
    (k : ∀ H', SA X.K H0 M0 σ r'.2 T H' → Q (.bl r'.1) H') : tChain (rOp X (compareOp op)) (rOp X (compareOp op')) (tE X.K f) (tE X.K g) (tE X.K h) σ H Q := by
  obtain ⟨r1, e1, e⟩ := ob e
  obtain ⟨r2, e2, e⟩ := ob e
  obtain ⟨p1, e3, e⟩ := ob e
  obtain ⟨p2, e4, e⟩ := ob e
  obtain ⟨z, e5, e⟩ := ob e
  refine ⟨H0, M0, env, T, r1, e1, sa, fun x H1 sa1 => ⟨H0, M0, r1.2, _, r2, e2, sa1, fun y H2 sa2 => ?_⟩⟩
  intro pins s σ' v u I rx ry
  obtain ⟨E, M, sx⟩ := id sa2
  obtain ⟨s1, g1, rfl⟩ := pvb_sl e3
  obtain ⟨s2, g2, rfl⟩ := pvb_sl e4
  refine op_cmp hu I rx ry sx (sx.get mem2.1 g1) (sx.get mem2.2 g2) e5 ⟨z, rfl, ?_⟩
  cases z with
  | false =>
    rw [if_neg Bool.false_ne_true] at e ⊢
    cases e
    exact k _ (sa2.left).left
  | true =>
    rw [if_pos rfl] at e ⊢
    obtain ⟨r3, e6, e⟩ := ob e
    obtain ⟨p3, e7, e⟩ := ob e
    obtain ⟨p4, e8, e⟩ := ob e
    obtain ⟨z', e9, rfl⟩ := om e
    refine ⟨H0, M0, r2.2, _, r3, e6, sa2, fun w H3 sa3 => ?_⟩
    intro pins s σ' v u I rx ry
    obtain ⟨E', M', sx'⟩ := id sa3
    obtain ⟨s3, g3, rfl⟩ := pvb_sl e7
    obtain ⟨s4, g4, rfl⟩ := pvb_sl e8
    refine op_cmp hu I rx ry sx' (sx'.get (by simp) g3) (sx'.get (by simp) g4) e9 (k _ ?_)
    exact ((sa3.left).left).left
theorem se_chain {op op' : CmpOp} (hu : X.A.units + 64 < cLine) (ha : PE X a (tE X.K f)) (hb : PE X b (tE X.K g)) (hc : PE X c (tE X.K h)) (hm : lastMarks [op, op'] [b, c] = false) :
    PE X (.Compare a [op, op'] [b, c] pos) (tE X.K fun env => (f env).bind fun r => (g r.2).bind fun q => (pvb q.2 r.1).bind fun x => (pvb q.2 q.1).bind fun y => (cmp2 op x y).bind fun z =>
      if z then (h q.2).bind fun w => (pvb w.2 q.1).bind fun y' => (pvb w.2 w.1).bind fun u => (cmp2 op' y' u).map fun z' => (.t (.sh (.bl z')), w.2) else some (.t (.sh (.bl false)), q.2)) := by
  refine PE_imp (pe_chain (op_r (compareOp op)) (op_r (compareOp op')) ha hb hc hm) fun σ H Q q => ?_
  obtain ⟨H0, M0, env, T, r', e, sa, k⟩ := q
  have e' : ∃ z e2, ((f env).bind fun r => (g r.2).bind fun q => (pvb q.2 r.1).bind fun x => (pvb q.2 q.1).bind fun y => (cmp2 op x y).bind fun z =>
      if z then (h q.2).bind fun w => (pvb w.2 q.1).bind fun y' => (pvb w.2 w.1).bind fun u => (cmp2 op' y' u).map fun z' => (z', w.2) else some (false, q.2)) = some (z, e2) ∧ r' = (.t (.sh (.bl z)), e2) := by
    obtain ⟨r1, e1, e⟩ := ob e
    obtain ⟨r2, e2, e⟩ := ob e
    obtain ⟨p1, e3, e⟩ := ob e
    obtain ⟨p2, e4, e⟩ := ob e
    obtain ⟨z, e5, e⟩ := ob e
    cases z with
    | false =>
      rw [if_neg Bool.false_ne_true] at e
      cases e
      exact ⟨false, r2.2, by simp [e1, e2, e3, e4, e5], rfl⟩
    | true =>
      rw [if_pos rfl] at e
      obtain ⟨r3, e6, e⟩ := ob e
      obtain ⟨p3, e7, e⟩ := ob e
      obtain ⟨p4, e8, e⟩ := ob e
      obtain ⟨z', e9, rfl⟩ := om e
      exact ⟨z', r3.2, by simp [e1, e2, e3, e4, e5, e6, e7, e8, e9], rfl⟩
  obtain ⟨z, e2, e3, rfl⟩ := e'
  refine chain_core hu sa e3 fun H' sa' => ?_
  obtain ⟨E, M, sx⟩ := sa'
  exact k _ _ (sx.push (.bl z))
theorem st_chain {op op' : CmpOp} (hu : X.A.units + 64 < cLine) (ha : PE X a (tE X.K f)) (hb : PE X b (tE X.K g)) (hc : PE X c (tE X.K h)) (hm : lastMarks [op, op'] [b, c] = false) :
    PT X (.Compare a [op, op'] [b, c] pos) (tTs X.K fun env => (f env).bind fun r => (g r.2).bind fun q => (pvb q.2 r.1).bind fun x => (pvb q.2 q.1).bind fun y => (cmp2 op x y).bind fun z =>
      if z then (h q.2).bind fun w => (pvb w.2 q.1).bind fun y' => (pvb w.2 w.1).bind fun u => (cmp2 op' y' u).map fun z' => (z', w.2) else some (false, q.2)) := by
  refine PT_imp (pt_chain (op_r (compareOp op)) (op_r (compareOp op')) ha hb hc hm) fun σ H Q q => ?_
  obtain ⟨H0, M0, env, T, r', e, sa, k⟩ := q
  exact chain_core (Q := fun x H' => ∃ k, x = .bl k ∧ Q k H') hu sa e fun H' sa' => ⟨_, rfl, k _ sa'⟩
/-- one value at hand, then it leaves -/
theorem se_neg (ha : PE X a (tE X.K f)) : PE X (.UnaryOp .USub a pos) (tE X.K fun env => (f env).bind fun r => match pvb r.2 r.1 with | some (.int i) => some (.t (.sh (.int (-i))), r.2) | _ => none) := by
  refine PE_imp (pe_un un_neg ha) fun σ H Q q => ?_
  obtain ⟨H0, M0, env, T, r', e, sa, k⟩ := q
  obtain ⟨r1, e1, e⟩ := ob e
  refine ⟨H0, M0, env, T, r1, e1, sa, fun x H1 sa1 => ?_⟩
  split at e
  · rename_i i e2
    cases e
    obtain ⟨E, M, sx⟩ := id sa1
    obtain ⟨s1, g1, g2⟩ := pvb_sl e2
    refine ⟨i, (sx.get (by simp) g1).int g2, k _ _ ?_⟩
    obtain ⟨E', M', sx'⟩ := sa1.left
    exact sx'.push (.int _)
  · cases e
theorem se_inv (ha : PE X a (tE X.K f)) : PE X (.UnaryOp .Invert a pos) (tE X.K fun env => (f env).bind fun r => match pvb r.2 r.1 with | some (.int i) => some (.t (.sh (.int (Builtin.bitNot i))), r.2) | _ => none) := by
  refine PE_imp (pe_un un_inv ha) fun σ H Q q => ?_
  obtain ⟨H0, M0, env, T, r', e, sa, k⟩ := q
  obtain ⟨r1, e1, e⟩ := ob e
  refine ⟨H0, M0, env, T, r1, e1, sa, fun x H1 sa1 => ?_⟩
  split at e
  · rename_i i e2
    cases e
    obtain ⟨E, M, sx⟩ := id sa1
    obtain ⟨s1, g1, g2⟩ := pvb_sl e2
    refine ⟨i, (sx.get (by simp) g1).int g2, k _ _ ?_⟩
    obtain ⟨E', M', sx'⟩ := sa1.left
    exact sx'.push (.int _)
  · cases e
theorem se_not (ha : PE X a (tE X.K f)) : PE X (.UnaryOp .Not a pos) (tE X.K fun env => (f env).bind fun r => match pvb r.2 r.1 with | some (.bl i) => some (.t (.sh (.bl (!i))), r.2) | _ => none) := by
  refine PE_imp (pe_not ha) fun σ H Q q => ?_
  obtain ⟨H0, M0, env, T, r', e, sa, k⟩ := q
  obtain ⟨r1, e1, e⟩ := ob e
  refine ⟨H0, M0, env, T, r1, e1, sa, fun x H1 sa1 => ?_⟩
  split at e
  · rename_i i e2
    cases e
    obtain ⟨E, M, sx⟩ := id sa1
    obtain ⟨s1, g1, g2⟩ := pvb_sl e2
    refine ⟨i, (sx.get (by simp) g1).bl g2, k _ _ ?_⟩
    obtain ⟨E', M', sx'⟩ := sa1.left
    exact sx'.push (.bl _)
  · cases e
theorem se_and {rest : List Expr} (ha : PE X a (tE X.K f)) (hb : PE X (.BoolOp .And (b :: rest) pos) (tE X.K g)) :
    PE X (.BoolOp .And (a :: b :: rest) pos) (tE X.K fun env => (f env).bind fun r => match pvb r.2 r.1 with | some (.bl true) => g r.2 | some (.bl false) => some (.t (.sh (.bl false)), r.2) | _ => none) := by
  refine PE_imp (pe_and ha hb) fun σ H Q q => ?_
  obtain ⟨H0, M0, env, T, r', e, sa, k⟩ := q
  obtain ⟨r1, e1, e⟩ := ob e
  refine ⟨H0, M0, env, T, r1, e1, sa, fun x H1 sa1 => ?_⟩
  split at e
  · rename_i e2
    obtain ⟨E, M, sx⟩ := id sa1
    obtain ⟨s1, g1, g2⟩ := pvb_sl e2
    refine ⟨true, (sx.get (by simp) g1).bl g2, ?_⟩
    rw [if_pos rfl]
    exact ⟨H0, M0, r1.2, T, r', e, sa1.left, k⟩
  · rename_i e2
    cases e
    obtain ⟨E, M, sx⟩ := id sa1
    obtain ⟨s1, g1, g2⟩ := pvb_sl e2
    refine ⟨false, (sx.get (by simp) g1).bl g2, ?_⟩
    rw [if_neg Bool.false_ne_true]
    obtain ⟨E', M', sx'⟩ := sa1.left
    exact k _ _ (sx'.push (.bl _))
  · cases e
theorem se_or {rest : List Expr} (ha : PE X a (tE X.K f)) (hb : PE X (.BoolOp .Or (b :: rest) pos) (tE X.K g)) :
    PE X (.BoolOp .Or (a :: b :: rest) pos) (tE X.K fun env => (f env).bind fun r => match pvb r.2 r.1 with | some (.bl false) => g r.2 | some (.bl true) => some (.t (.sh (.bl true)), r.2) | _ => none) := by
  refine PE_imp (pe_or ha hb) fun σ H Q q => ?_
  obtain ⟨H0, M0, env, T, r', e, sa, k⟩ := q
  obtain ⟨r1, e1, e⟩ := ob e
  refine ⟨H0, M0, env, T, r1, e1, sa, fun x H1 sa1 => ?_⟩
  split at e
  · rename_i e2
    obtain ⟨E, M, sx⟩ := id sa1
    obtain ⟨s1, g1, g2⟩ := pvb_sl e2
    refine ⟨false, (sx.get (by simp) g1).bl g2, ?_⟩
    rw [if_neg Bool.false_ne_true]
    exact ⟨H0, M0, r1.2, T, r', e, sa1.left, k⟩
  · rename_i e2
    cases e
    obtain ⟨E, M, sx⟩ := id sa1
    obtain ⟨s1, g1, g2⟩ := pvb_sl e2
    refine ⟨true, (sx.get (by simp) g1).bl g2, ?_⟩
    rw [if_pos rfl]
    obtain ⟨E', M', sx'⟩ := sa1.left
    exact k _ _ (sx'.push (.bl _))
  · cases e
variable {ft gt : PEnv → Option (Bool × PEnv)}
theorem se_ife (hc : PT X c (tTs X.K ft)) (ha : PE X a (tE X.K f)) (hb : PE X b (tE X.K g)) : PE X (.IfExp c a b pos) (tE X.K fun env => (ft env).bind fun r => if r.1 then f r.2 else g r.2) := by
  refine PE_imp (pe_ifExp hc ha hb) fun σ H Q q => ?_
  obtain ⟨H0, M0, env, T, r', e, sa, k⟩ := q
  obtain ⟨r1, e1, e⟩ := ob e
  refine ⟨H0, M0, env, T, r1, e1, sa, fun H1 sa1 => ?_⟩
  obtain ⟨b1, env1⟩ := r1
  cases b1 with
  | true => exact ⟨H0, M0, env1, T, r', e, sa1, k⟩
  | false => exact ⟨H0, M0, env1, T, r', e, sa1, k⟩
theorem se_ix (ha : PE X a (tE X.K f)) (hb : PE X b (tE X.K g)) (hs : PlainIx b) :
    PE X (.Subscript a b pos) (tE X.K fun env => (f env).bind fun r => (g r.2).bind fun q => (pvb q.2 r.1).bind fun x => (pvb q.2 q.1).bind fun y => (ix2 x y).map fun z => (.t (.sh z), q.2)) := by
  have hr : IxR X (fun x y H Q => ∀ (value slice : Expr) (pins : List (Addr × Obj)) (s : Shared) (σ : L2.St) (v u : Value), Inv X pins σ H s → RelV x v → RelV y u → subscripted slice false v u = operate [v, u] (getItem v u) → wpAny (model X.prog X.w) X.A (subscriptTail value slice v u) (EP X pins σ Q) X.xe s) :=
    fun value slice pins s σ H x y v u Q I rx ry q hs => q value slice pins s σ v u I rx ry hs
  refine PE_imp (pe_ix hr ha hb hs) fun σ H Q q => ?_
  obtain ⟨H0, M0, env, T, r', e, sa, k⟩ := q
  obtain ⟨r1, e1, e⟩ := ob e
  obtain ⟨r2, e2, e⟩ := ob e
  obtain ⟨p1, e3, e⟩ := ob e
  obtain ⟨p2, e4, e⟩ := ob e
  obtain ⟨z, e5, rfl⟩ := om e
  refine ⟨H0, M0, env, T, r1, e1, sa, fun x H1 sa1 => ⟨H0, M0, r1.2, _, r2, e2, sa1, fun y H2 sa2 => ?_⟩⟩
  intro value slice pins s σ' v u I rx ry hs
  obtain ⟨E, M, sx⟩ := id sa2
  obtain ⟨s1, g1, rfl⟩ := pvb_sl e3
  obtain ⟨s2, g2, rfl⟩ := pvb_sl e4
  exact op_ix value slice I rx ry sx (sx.get mem2.1 g1) (sx.get mem2.2 g2) e5 hs fun v H' sa' => k v H' (SA.mid (T := T) (A := [(x, r1.1)] ++ [(y, r2.1)]) (B := [(v, .t (.sh z))]) (by simpa using sa'))
variable {fl fh : PEnv → Option (Option Int × PEnv)} {lo hi : Option Expr} {p2 : Pos}
theorem so_no : PO X none (tOs X.K fun env => some (none, env)) := by
  refine PO_imp po_none fun σ H Q q => ?_
  obtain ⟨H0, M0, env, T, r', e, sa, k⟩ := q
  cases e
  exact k _ sa
theorem so_some (ha : PE X a (tE X.K f)) : PO X (some a) (tOs X.K fun env => (f env).bind fun r => match pvb r.2 r.1 with | some (.int i) => some (some i, r.2) | _ => none) := by
  refine PO_imp (po_some ha) fun σ H Q q => ?_
  obtain ⟨H0, M0, env, T, r', e, sa, k⟩ := q
  obtain ⟨r1, e1, e⟩ := ob e
  refine ⟨H0, M0, env, T, r1, e1, sa, fun x H1 sa1 => ?_⟩
  split at e
  · rename_i i e2
    cases e
    obtain ⟨E, M, sx⟩ := id sa1
    obtain ⟨s1, g1, g2⟩ := pvb_sl e2
    exact ⟨i, (sx.get (by simp) g1).int g2, k _ sa1.left⟩
  · cases e
theorem se_slc (ha : PE X a (tE X.K f)) (hl : PO X lo (tOs X.K fl)) (hh : PO X hi (tOs X.K fh)) :
    PE X (.Subscript a (.Slice lo hi none p2) pos) (tE X.K fun env => (f env).bind fun r => (fl r.2).bind fun l => (fh l.2).bind fun h => (pvb h.2 r.1).bind fun x => (slc3 x l.1 h.1).map fun z => (.t z, h.2)) := by
  have hr : SlR X (fun x lo hi H Q => ∀ (pins : List (Addr × Obj)) (s : Shared) (σ : L2.St) (v vl vu : Value) (sl : Addr), Inv X pins σ H s → RelV x v → s.heap.IsSliceOf sl vl vu .none → IsPart vl lo → IsPart vu hi →
    ∃ T id, typeLookup (.type T) "__getitem__" = pure (some (.builtin id)) ∧ s.TypeIs v T ∧ wpAny (model X.prog X.w) X.A (getItem v (.ref sl)) (EP X pins σ Q) X.xe s) :=
    fun pins s σ H x v vl vu lo hi sl Q I rx hs pl pu q => q pins s σ v vl vu sl I rx hs pl pu
  refine PE_imp (pe_slice hr ha hl hh) fun σ H Q q => ?_
  obtain ⟨H0, M0, env, T, r', e, sa, k⟩ := q
  obtain ⟨r1, e1, e⟩ := ob e
  obtain ⟨r2, e2, e⟩ := ob e
  obtain ⟨r3, e3, e⟩ := ob e
  obtain ⟨p1, e4, e⟩ := ob e
  obtain ⟨z, e5, rfl⟩ := om e
  refine ⟨H0, M0, env, T, r1, e1, sa, fun x H1 sa1 => ⟨H0, M0, r1.2, _, r2, e2, sa1, fun H2 sa2 => ⟨H0, M0, r2.2, _, r3, e3, sa2, fun H3 sa3 => ?_⟩⟩⟩
  intro pins s σ' v vl vu sl I rx hs pl pu
  obtain ⟨E, M, sx⟩ := id sa3
  obtain ⟨s1, g1, rfl⟩ := pvb_sl e4
  exact op_slc I rx hs pl pu sx (sx.get (by simp) g1) e5 fun v H' sa' => k v H' sa'.mid
/-! lists of expressions -/
variable {es : List Expr} {fs : PEnv → Option (List Bw × PEnv)}
theorem sa_nil : PA X [] (tAs X.K fun env => some ([], env)) := by
  refine PA_imp pa_nil fun σ H Q q => ?_
  obtain ⟨H0, M0, env, T, r', e, sa, k⟩ := q
  cases e
  exact k [] H rfl (by simpa using sa)
theorem sa_cons (ha : PE X a (tE X.K f)) (hr : PA X es (tAs X.K fs)) (hs : starEach (a :: es) X.env = (false, eval a X.env) :: starEach es X.env) :
    PA X (a :: es) (tAs X.K fun env => (f env).bind fun r => (fs r.2).map fun q => (r.1 :: q.1, q.2)) := by
  refine PA_imp (pa_cons ha hr hs) fun σ H Q q => ?_
  obtain ⟨H0, M0, env, T, r', e, sa, k⟩ := q
  obtain ⟨r1, e1, e⟩ := ob e
  obtain ⟨r2, e2, rfl⟩ := om e
  refine ⟨H0, M0, env, T, r1, e1, sa, fun x H1 sa1 => ⟨H0, M0, r1.2, _, r2, e2, sa1, fun vs H2 hl sa2 => ?_⟩⟩
  exact k (x :: vs) H2 (by simp [hl]) (by simpa using sa2)
theorem reps_of {K : PySem.W.Frag} {H0 M0 H M : Hp} {σ : L2.St} {env : PEnv} {T : List (V × Bw)} {E : List (V × Sl)} (h : SAx K H0 M0 σ env T H E M) : ∀ {vs : List V} {ps : List PV}, vs.length = ps.length → (∀ e ∈ vs.zip (ps.map fun p => Bw.t (.sh p)), e ∈ T) → Reps K M vs ps
  | [], [], _, _ => .nil
  | [], p :: ps, hl, _ => by simp at hl
  | v :: vs, [], hl, _ => by simp at hl
  | v :: vs, p :: ps, hl, hm => by
    have h1 : (v, Bw.t (.sh p)) ∈ T := hm _ (by simp)
    exact .cons (h.get (s := .sh p) h1 rfl) (reps_of h (by simpa using hl) fun e he => hm e (by simp at he ⊢; exact .inr he))
theorem se_tup {k1 : Nat} (hs : PA X es (tAs X.K fs)) : PE X (.Tuple es k1 pos) (tE X.K fun env => (fs env).bind fun r => (Mir.fixs r.2 r.1).bind fun q => if q.1.length ≤ lim then some (.t (.sh (.tup q.1)), q.2) else none) := by
  refine PE_imp (pe_tup hs) fun σ H Q q => ?_
  obtain ⟨H0, M0, env, T, r', e, sa, k⟩ := q
  obtain ⟨r1, e1, e⟩ := ob e
  obtain ⟨r2, e2, e⟩ := ob e
  refine ⟨H0, M0, env, T, r1, e1, sa, fun vs H1 hl sa1 => ?_⟩
  obtain ⟨hl2, sa2⟩ := SA.fixs (B := []) hl (by simpa using sa1) e2
  split at e
  · rename_i hlim
    cases e
    refine ⟨by rw [hl, ← hl2]; exact le_line hlim, fun p hp => k _ _ ?_⟩
    obtain ⟨E, M, sx⟩ := id sa2
    exact SA.mid (sx.tup hp (reps_of sx (by rw [hl, hl2]) fun e he => by simp [he])) |> fun z => SA.mid (T := T) (A := vs.zip (r2.1.map fun p => Bw.t (.sh p))) (by simpa using z)
  · cases e
theorem se_lst (hs : PA X es (tAs X.K fs)) : PE X (.List es pos) (tE X.K fun env => (fs env).bind fun r => (Mir.fixs r.2 r.1).bind fun q => if q.1.length ≤ lim then some (.t (.own q.1), q.2) else none) := by
  refine PE_imp (pe_lst hs) fun σ H Q q => ?_
  obtain ⟨H0, M0, env, T, r', e, sa, k⟩ := q
  obtain ⟨r1, e1, e⟩ := ob e
  obtain ⟨r2, e2, e⟩ := ob e
  refine ⟨H0, M0, env, T, r1, e1, sa, fun vs H1 hl sa1 => ?_⟩
  obtain ⟨hl2, sa2⟩ := SA.fixs (B := []) hl (by simpa using sa1) e2
  split at e
  · rename_i hlim
    cases e
    refine ⟨by rw [hl, ← hl2]; exact le_line hlim, fun p hp => k _ _ ?_⟩
    obtain ⟨E, M, sx⟩ := id sa2
    exact SA.mid (sx.lst hp (reps_of sx (by rw [hl, hl2]) fun e he => by simp [he])) |> fun z => SA.mid (T := T) (A := vs.zip (r2.1.map fun p => Bw.t (.sh p))) (by simpa using z)
  · cases e
end
end Mir
/-! Mir6: calls, built-ins, walks, comprehensions. -/
namespace Mir
open PySem PySem.Spec PyProof.Rows L2

section
variable {X : Cx} {e a b : Expr} {es : List Expr} {pos p apos : Pos} {x : Str} {f g : PEnv → Option (Bw × PEnv)} {fs : PEnv → Option (List Bw × PEnv)}
theorem se_blt {n : String} (hc : X.calm = true) (hg : Gl X (n : Str)) (hm : X.mg (n : Str) = none) (hf : (bTypes ++ bFuns).contains n = true) (ha : PA X (e :: es) (tAs X.K fs)) (hn : (n : Str) ≠ "__name__") (hdb : ((n : Str) == ("__debug__" : Str)) = false)
    (he : starEach (e :: es) X.env = (false, eval e X.env) :: starEach es X.env) (hpl : (backTo pos (starEach es X.env)).any (·.1) = false) :
    PE X (.Call (.Name (n : Str) p) (e :: es) [] pos) (tE X.K fun env => (fs env).bind fun r => (pvbs r.2 r.1).bind fun ps => (blt2 n ps).map fun s => (.t s, r.2)) := by
  have hr : CallR X (bv n) (fun xs H Q => ∀ (pins : List (Addr × Obj)) (s : Shared) (σ : L2.St) (us : List Value), Inv X pins σ H s → Vals xs us → wpAny (model X.prog X.w) X.A (call (bv n) us) (EP X pins σ Q) X.xe s) :=
    fun pins s σ H xs us Q I r q => q pins s σ us I r
  have main : ∀ σ H Q, tE X.K (fun env => (fs env).bind fun r => (pvbs r.2 r.1).bind fun ps => (blt2 n ps).map fun s => (.t s, r.2)) σ H Q →
      tCB (fun xs H Q => ∀ (pins : List (Addr × Obj)) (s : Shared) (σ : L2.St) (us : List Value), Inv X pins σ H s → Vals xs us → wpAny (model X.prog X.w) X.A (call (bv n) us) (EP X pins σ Q) X.xe s) (tAs X.K fs) σ H Q := fun σ H Q q => by
    obtain ⟨H0, M0, env, T, r', e, sa, k⟩ := q
    obtain ⟨r1, e1, e⟩ := ob e
    obtain ⟨ps, e2, e⟩ := ob e
    obtain ⟨s, e3, rfl⟩ := om e
    refine ⟨H0, M0, env, T, r1, e1, sa, fun vs H1 hl sa1 => ?_⟩
    intro pins s' σ' us I r
    obtain ⟨E, M, sx⟩ := id sa1
    exact op_blt hc I r sx (sx.gets hl (fun e he => List.mem_append_right _ he) e2) e3 fun v H' sa' => k v H' sa'.mid
  by_cases hT : bTypes.contains n = true
  · have e1 : bv n = .type n := if_pos hT
    rw [e1] at hr main
    exact PE_imp (pe_callTy hr hg hm (by rw [← e1]; exact boot_ok hf) ha hn hdb he hpl) main
  · have e1 : bv n = .builtin n := if_neg hT
    rw [e1] at hr main
    exact PE_imp (pe_callB hr hg hm (by rw [← e1]; exact boot_ok hf) ha hn hdb he hpl) main
theorem se_isi {ty : String} {p2 p3 : Pos} (hg : Gl X "isinstance") (hm : X.mg "isinstance" = none) (hgt : Gl X (ty : Str)) (hmt : X.mg (ty : Str) = none) (hbt : bootBuiltins (ty : Str) = some (.type ty)) (ha : PE X a (tE X.K f)) (hn : (ty : Str) ≠ "__name__") (hdb : ((ty : Str) == ("__debug__" : Str)) = false)
    (he : starEach [a, .Name (ty : Str) p2] X.env = (false, eval a X.env) :: starEach [.Name (ty : Str) p2] X.env) :
    PE X (.Call (.Name "isinstance" p) [a, .Name (ty : Str) p2] [] pos) (tE X.K fun env => (f env).bind fun r => (pvb r.2 r.1).bind fun x => (isi2 x ty).map fun z => (.t (.sh (.bl z)), r.2)) := by
  refine PE_imp (pe_callB call_isi hg hm (by decide +kernel) (pa_cons ha (pa_cons (pe_bltn (v := .ty ty) hgt hmt hbt rfl hn hdb) pa_nil rfl) he) (by decide +kernel) (by decide +kernel) he rfl) fun σ H Q q => ?_
  obtain ⟨H0, M0, env, T, r', e, sa, k⟩ := q
  obtain ⟨r1, e1, e⟩ := ob e
  obtain ⟨ps, e2, e⟩ := ob e
  obtain ⟨z, e3, rfl⟩ := om e
  refine ⟨H0, M0, env, T, r1, e1, sa, fun v H1 sa1 => ?_⟩
  obtain ⟨E, M, sx⟩ := id sa1
  obtain ⟨s1, g1, rfl⟩ := pvb_sl e2
  obtain ⟨T', h1, h2⟩ := ty_of sx (sx.get (v := v) (by simp) g1) e3
  refine ⟨v, .ty ty, .type T', .type ty, z, rfl, .ty ty, h1, kit_ty h2, k _ _ ?_⟩
  obtain ⟨E', M', sx'⟩ := sa1.left
  exact sx'.push (.bl _)
/-- a method of a text with one argument -/
theorem mt_one {m i : String} {r : V → List V → Hp → VK → Prop} (slot : Slot "str" (m : Str) i) (ty : typeOf (.builtin i) = pure (.type "method_descriptor")) (rule : MtR X i r) (ho : PE X a (tE X.K f)) (he : PE X b (tE X.K g))
    (hs : starEach [b] X.env = [(false, eval b X.env)]) (hbase : attributeBase a (m : Str) X.env (eval a X.env) = eval a X.env) (hline : (apos.endLine == pos.line) = true)
    (hr : ∀ (t : Str) (y : V) (s2 z : Sl) (H H0 M0 M : Hp) (σ : L2.St) (env : PEnv) (T : List (V × Bw)) (E : List (V × Sl)) (Q : VK), SAx X.K H0 M0 σ env T H E M → SlOk X.K H0 M H y s2 → meth2 m (.str t) s2.pv = some z →
      (∀ v H', SA X.K H0 M0 σ env (T ++ [(v, .t z)]) H' → Q v H') → r (.str t) [y] H Q)
    (hx : ∀ p q z, meth2 m p q = some z → ∃ a, p = .str a) :
    PE X (.Call (.Attribute a (m : Str) apos) [b] [] pos) (tE X.K fun env => (f env).bind fun r => (pvb r.2 r.1).bind fun x => (g r.2).bind fun q => (pvb q.2 q.1).bind fun y => (meth2 m x y).map fun z => (.t z, q.2)) := by
  refine PE_imp (pe_m1 slot ty rule ho he hs hbase hline) fun σ H Q q => ?_
  obtain ⟨H0, M0, env, T, r', e, sa, k⟩ := q
  obtain ⟨r1, e1, e⟩ := ob e
  obtain ⟨p1, e3, e⟩ := ob e
  obtain ⟨r2, e2, e⟩ := ob e
  obtain ⟨p2, e4, e⟩ := ob e
  obtain ⟨z, e5, rfl⟩ := om e
  refine ⟨H0, M0, env, T, r1, e1, sa, fun v H1 sa1 => ?_⟩
  obtain ⟨E, M, sx⟩ := id sa1
  obtain ⟨s1, g1, g2⟩ := pvb_sl e3
  obtain ⟨t, rfl⟩ := hx _ _ _ e5
  have ev := (sx.get (v := v) (by simp) g1).str g2
  subst ev
  refine ⟨⟨t, rfl⟩, H0, M0, r1.2, _, r2, e2, sa1, fun w H2 sa2 => ?_⟩
  obtain ⟨E', M', sx'⟩ := id sa2
  obtain ⟨s2, g4, rfl⟩ := pvb_sl e4
  exact hr t w s2 z H2 H0 M0 M' σ r2.2 _ E' Q sx' (sx'.get mem2.2 g4) e5 fun v' H' sa' => k v' H' (SA.mid (T := T) (A := [(.str t, r1.1)] ++ [(w, r2.1)]) (B := [(v', .t z)]) (by simpa using sa'))
theorem Reps.strsOf {K : PySem.W.Frag} {M : Hp} {vs : List V} {ps : List PV} {ns : List Str} (r : Reps K M vs ps) (e : asStrs ps = some ns) : vs = ns.map V.str := by
  rw [asStrs_ok e] at r
  exact r.strs
theorem se_meth {m : String} (hmm : m = "join" ∨ m = "find" ∨ m = "split") (ho : PE X a (tE X.K f)) (he : PE X b (tE X.K g))
    (hs : starEach [b] X.env = [(false, eval b X.env)]) (hbase : attributeBase a (m : Str) X.env (eval a X.env) = eval a X.env) (hline : (apos.endLine == pos.line) = true) :
    PE X (.Call (.Attribute a (m : Str) apos) [b] [] pos) (tE X.K fun env => (f env).bind fun r => (pvb r.2 r.1).bind fun x => (g r.2).bind fun q => (pvb q.2 q.1).bind fun y => (meth2 m x y).map fun z => (.t z, q.2)) := by
  have hx : ∀ p q z, meth2 m p q = some z → ∃ a, p = .str a := fun p q z e => by
    unfold meth2 at e
    split at e <;> first | exact ⟨_, rfl⟩ | cases e
  rcases hmm with rfl | rfl | rfl
  · refine mt_one PySem.F.slot_str_join PySem.F.type_str_join mt_join ho he hs hbase hline ?_ hx
    intro t y s2 z H H0 M0 M σ env T E Q sx hy e k
    generalize hp : s2.pv = p2 at e
    cases p2 with
    | lst xs =>
      have e' : ((asStrs xs).bind fun ys => if (ys.map (·.length)).sum + ys.length * t.length ≤ lim then some (Sl.sh (.str (Txt.join t ys))) else none) = some z := e
      obtain ⟨ys, e1, e⟩ := ob e'
      split at e
      · rename_i hl
        cases e
        obtain ⟨c, vs, rfl, h1, r1⟩ := hy.lst hp sx.same
        rw [r1.strsOf e1] at h1
        exact ⟨t, c, ys, rfl, rfl, .inl h1, hl, k _ _ (sx.push (.str _))⟩
      · cases e
    | _ => exact absurd (show (none : Option Sl) = some z from e) (by simp)
  · refine mt_one PySem.F.slot_str_find PySem.F.type_str_find mt_find ho he hs hbase hline ?_ hx
    intro t y s2 z H H0 M0 M σ env T E Q sx hy e k
    generalize hp : s2.pv = p2 at e
    cases p2 with
    | str u =>
      have e' : some (Sl.sh (.int (Txt.find t u))) = some z := e
      cases e'
      exact ⟨t, _, rfl, by rw [hy.str hp], k _ _ (sx.push (.int _))⟩
    | _ => exact absurd (show (none : Option Sl) = some z from e) (by simp)
  · refine mt_one PySem.F.slot_str_split PySem.F.type_str_split mt_split ho he hs hbase hline ?_ hx
    intro t y s2 z H H0 M0 M σ env T E Q sx hy e k
    generalize hp : s2.pv = p2 at e
    cases p2 with
    | str u =>
      have e' : (if u.length ≠ 0 ∧ t.length + 2 ≤ lim then some (Sl.own ((Txt.split t u).map PV.str)) else none) = some z := e
      split at e'
      · rename_i hl
        cases e'
        refine ⟨t, u, rfl, by rw [hy.str hp], by simpa using hl.1, le_line hl.2, fun p hp => k _ _ (sx.lst hp (Reps.of_strs _))⟩
      · cases e'
    | _ => exact absurd (show (none : Option Sl) = some z from e) (by simp)

/-! ### a def of the text -/
def spF (K : PySem.W.Frag) (F : List PV → Option Sl) : Sp := fun vs H Q _ => ∃ M ps r, Same M H ∧ Reps K M vs ps ∧ F ps = some r ∧ ∀ v H', (∃ M', Hyp K H M M' H' [(v, r)]) → Q v H'
structure FnAt (X : Cx) (k : Nat) (nm : Str) (ps : List Str) (F : List PV → Option Sl) : Prop where
  ex : ∃ (a : Addr) (fd : FuncData), FnOk X.prog X.w X.K X.mg X.base CX0 k a fd ps (spF X.K F) ∧ X.mg nm = some (.ref a) ∧ PySem.W.keepIn X.K (.ref a) = true ∧ Binds X.K fd ps []
theorem pvb_fix {env : PEnv} {x : Bw} {r : PV × PEnv} (e : Mir.fix env x = some r) (y : Bw) : pvb r.2 y = pvb env y := by
  cases x with
  | t s => simp only [Mir.fix, Option.some.injEq] at e; subst e; rfl
  | b i =>
    obtain ⟨s, e1, rfl⟩ := om e
    cases y with
    | t s' => rfl
    | b j =>
      show Option.map Sl.pv ((env.set i (some (.sh s.pv))).getD j none) = Option.map Sl.pv (env.getD j none)
      by_cases hj : i = j
      · subst hj
        have hl : i < env.length := by
          refine Nat.lt_of_not_le fun z => ?_
          rw [List.getD_eq_getElem?_getD, List.getElem?_eq_none z] at e1
          cases e1
        rw [e1]
        simp [List.getD_eq_getElem?_getD, hl]
        rfl
      · rw [getD_set_ne hj]
theorem pv_fix {env : PEnv} {x : Bw} {r : PV × PEnv} (e : Mir.fix env x = some r) : pvb env x = some r.1 := by
  cases x with
  | t s => simp only [Mir.fix, Option.some.injEq] at e; subst e; rfl
  | b i =>
    obtain ⟨s, e1, rfl⟩ := om e
    show Option.map Sl.pv (env.getD i none) = some s.pv
    rw [e1]
    rfl
theorem pvbs_fix {env : PEnv} {x : Bw} {r : PV × PEnv} (e : Mir.fix env x = some r) : ∀ ys, pvbs r.2 ys = pvbs env ys
  | [] => rfl
  | y :: ys => by
    unfold pvbs
    rw [pvb_fix e, pvbs_fix e ys]
theorem fixs_pvbs : ∀ {xs : List Bw} {env : PEnv} {q : List PV × PEnv}, Mir.fixs env xs = some q → pvbs env xs = some q.1
  | [], _, _, e => by simp only [Mir.fixs, Option.some.injEq] at e; subst e; rfl
  | x :: xs, env, q, e => by
    obtain ⟨r1, e1, e⟩ := ob e
    obtain ⟨r2, e2, rfl⟩ := om e
    have h := fixs_pvbs e2
    rw [pvbs_fix e1] at h
    show (pvb env x).bind _ = _
    rw [pv_fix e1]
    show Option.map _ (pvbs env xs) = _
    rw [h]
    rfl
theorem SlsOk.lend {K : PySem.W.Frag} {H0 M M' H : Hp} (sm : Same M M') : ∀ {vs : List V} {ps : List PV}, SlsOk K H0 M H vs ps → (∀ a vs', V.ref a ∈ vs → M a = none → H a = some (.lst vs') → M' a = some (.lst vs')) → Reps K M' vs ps
  | _, _, .nil, _ => .nil
  | _, _, .cons (v := v) (s := s) h t, q => by
    refine .cons ?_ (t.lend sm fun a vs' hm => q a vs' (List.mem_cons_of_mem _ hm))
    cases s with
    | sh p => exact Rep.mono sm h
    | own xs =>
      obtain ⟨a, vs', rfl, h1, h2, h3, h4⟩ := h
      exact .lst (.of (q a vs' List.mem_cons_self h1 h3)) (Reps.mono sm h4)
theorem call_core {F : List PV → Option Sl} {σ : L2.St} {H : Hp} {Q : VK} {H0 M0 : Hp} {env : PEnv} {T : List (V × Bw)} {vs : List V} {bs : List Bw} {ps : List PV} {s : Sl} {r' : Bw × PEnv} (hl : vs.length = bs.length) (sa : SA X.K H0 M0 σ env (T ++ vs.zip bs) H)
    (e1 : pvbs env bs = some ps) (e2 : F ps = some s) (e : (if s.flat then some (.t s, env) else (Mir.fixs env bs).map fun q => (.t s, q.2)) = some r') (k : ∀ v H', SA X.K H0 M0 σ r'.2 (T ++ [(v, r'.1)]) H' → Q v H') (E : XK) : spF X.K F vs H Q E := by
  classical
  split at e
  · rename_i fl
    cases e
    obtain ⟨E, M, sx⟩ := sa
    have hs := sx.gets hl (fun e he => List.mem_append_right _ he) e1
    generalize hB : (fun b : Addr => V.ref b ∈ vs ∧ M b = none ∧ ∃ vs', H b = some (.lst vs')) = B
    refine ⟨fun b => if B b then H b else M b, ps, s, fun b o e => ?_, ?_, e2, fun v H' ⟨M', hy⟩ => ?_⟩
    · by_cases z : B b
      · exact (if_pos z).symm.trans e
      · exact sx.same _ _ ((if_neg z).symm.trans e)
    · refine hs.lend (fun b o e => ?_) fun a vs' h1 h2 h3 => ?_
      · have nb : ¬ B b := fun z => by
          rw [← hB] at z
          rw [z.2.1] at e; cases e
        exact (if_neg nb).trans e
      · have hb : B a := by rw [← hB]; exact ⟨h1, h2, vs', h3⟩
        exact (if_pos hb).trans h3
    · obtain ⟨M2, h2⟩ := sx.hyp.lent (B := B) (Mb := fun b => if B b then H b else M b) (fun b z => by rw [← hB] at z; exact ⟨z.2.1, z.2.2⟩) (fun b z => if_neg z) (fun b z => by
        obtain ⟨vs', e⟩ : ∃ vs', H b = some (.lst vs') := by rw [← hB] at z; exact z.2.2
        exact ⟨vs', (if_pos z).trans e⟩) fl hy
      have sa2 : SA X.K H0 M0 σ env (T ++ vs.zip bs ++ [(v, .t s)]) H' := by
        refine ⟨E, M2, sx.lv, ?_, fun w i hm => ?_⟩
        · rw [tents_append, ← List.append_assoc]
          exact h2
        · rcases List.mem_append.mp hm with q | q
          · exact sx.bor w i q
          · simp at q
      exact k v H' sa2.mid
  · obtain ⟨q, e3, rfl⟩ := om e
    obtain ⟨hl2, sa2⟩ := SA.fixs (B := []) hl (by simpa using sa) e3
    rw [List.append_nil] at sa2
    obtain ⟨E, M, sx⟩ := id sa2
    have e4 : q.1 = ps := Option.some.inj ((fixs_pvbs e3).symm.trans e1)
    refine ⟨M, ps, s, sx.same, by rw [← e4]; exact reps_of sx (by rw [hl, hl2]) fun e he => List.mem_append_right _ he, e2, fun v H' ⟨M', hy⟩ => ?_⟩
    have sa3 : SA X.K H0 M0 σ q.2 (T ++ vs.zip (q.1.map fun p => Bw.t (.sh p)) ++ [(v, .t s)]) H' := by
      refine ⟨E, M', sx.lv, ?_, fun w i hm => ?_⟩
      · rw [tents_append, ← List.append_assoc]
        exact sx.hyp.called hy
      · rcases List.mem_append.mp hm with z | z
        · exact sx.bor w i z
        · simp at z
    exact k v H' sa3.mid
theorem se_call {F : List PV → Option Sl} {k : Nat} {ps : List Str} (A : FnAt X k x ps F) (hr : Room k X.A) (hg : Gl X x) (ha : PA X (e :: es) (tAs X.K fs)) (hdb : (x == ("__debug__" : Str)) = false)
    (he : starEach (e :: es) X.env = (false, eval e X.env) :: starEach es X.env) (hpl : (backTo pos (starEach es X.env)).any (·.1) = false) :
    PE X (.Call (.Name x p) (e :: es) [] pos) (tE X.K fun env => (fs env).bind fun r => (pvbs r.2 r.1).bind fun ps => (F ps).bind fun s => if s.flat then some (.t s, r.2) else (Mir.fixs r.2 r.1).map fun q => (.t s, q.2)) := by
  obtain ⟨fa, fd, G, hm, hk, hb⟩ := A.ex
  refine PE_imp (pe_call G hr hg hm hk hb .nil pass0 ha hdb he hpl) fun σ H Q q => ?_
  obtain ⟨H0, M0, env, T, r', e, sa, k⟩ := q
  obtain ⟨r1, e1, e⟩ := ob e
  obtain ⟨ps, e2, e⟩ := ob e
  obtain ⟨s, e3, e⟩ := ob e
  refine ⟨H0, M0, env, T, r1, e1, sa, fun vs H1 hl sa1 => ?_⟩
  show spF X.K F (vs ++ []) H1 Q _
  rw [List.append_nil]
  exact call_core hl sa1 e2 e3 e k _
end
end Mir
/-! Mir7: targets, what is walked, comprehensions. -/
namespace Mir
open PySem PySem.Spec PyProof.Rows L2

section
variable {K : PySem.W.Frag} {H0 M0 M H : Hp} {σ : L2.St} {env : PEnv} {T T' A B : List (V × Bw)} {E : List (V × Sl)}
theorem SA.perm (h : SA K H0 M0 σ env T H) (p : T.Perm T') : SA K H0 M0 σ env T' H := by
  obtain ⟨E, M, x⟩ := h
  exact ⟨E, M, x.lv, x.hyp.perm (List.Perm.append_left E (p.filterMap ent)), fun v i hm => x.bor v i (p.mem_iff.mpr hm)⟩
theorem SAx.pushX (h : SAx K H0 M0 σ env T H E M) {v : V} {p : PV} (r : Rep K M v p) : SAx K H0 M0 σ env (T ++ [(v, .t (.sh p))]) H E M := by
  refine ⟨h.lv, ?_, fun w i hm => ?_⟩
  · rw [tents_append, ← List.append_assoc]
    exact h.hyp.push r
  · rcases List.mem_append.mp hm with q | q
    · exact h.bor w i q
    · simp at q
theorem SAx.pushes : ∀ {vs : List V} {ps : List PV} {T : List (V × Bw)}, SAx K H0 M0 σ env T H E M → Reps K M vs ps → SAx K H0 M0 σ env (T ++ vs.zip (ps.map fun p => Bw.t (.sh p))) H E M
  | [], _, T, h, .nil => by simpa using h
  | v :: vs, p :: ps, T, h, .cons r t => by
    have := SAx.pushes (h.pushX r) t
    simpa using this
theorem SA.set' {v : V} {s : Sl} {i : Nat} (h : SA K H0 M0 σ env (T ++ [(v, .t s)]) H) (hT : ∀ v, (v, Bw.b i) ∉ T) : SA K H0 M0 (σ.set i (some v)) (env.set i (some s)) T H := by
  by_cases hi : i < env.length
  · exact h.set hi hT
  · have hl := h.length
    rw [List.set_eq_of_length_le (by omega), List.set_eq_of_length_le (by omega)]
    exact h.left

/-! ### targets -/
def gNames : List Nat → TGs
  | [] => gNil
  | i :: is => gCons (gName i) (gNames is)
def gT (K : PySem.W.Frag) : Tg → TG
  | .name i => gName i
  | .tup is => gTup K is.length (gNames is)
def tgSl : Tg → List Nat
  | .name i => [i]
  | .tup is => is
theorem names_ok {Q : L2.St → Hp → Prop} : ∀ {is : List Nat} {vs : List V} {ps : List PV} {σ : L2.St} {env env' : PEnv}, setAll is ps env = some env' → vs.length = ps.length → SA K H0 M0 σ env (T ++ vs.zip (ps.map fun p => Bw.t (.sh p))) H →
    (∀ i ∈ is, ∀ v, (v, Bw.b i) ∉ T) → (∀ σ2, SA K H0 M0 σ2 env' T H → σ2.length = σ.length → (∀ j, j ∉ is → σ2[j]? = σ[j]?) → Q σ2 H) → gNames is vs σ H Q
  | [], vs, [], σ, env, env', e, hl, sa, _, k => by
    have : vs = [] := by simpa using hl
    subst this
    simp only [setAll, Option.some.injEq] at e
    subst e
    exact ⟨rfl, k σ (by simpa using sa) rfl fun _ _ => rfl⟩
  | [], _, _ :: _, _, _, _, e, _, _, _, _ => by simp [setAll] at e
  | i :: is, vs, [], _, _, _, e, _, _, _, _ => by simp [setAll] at e
  | i :: is, [], p :: ps, _, _, _, e, hl, _, _, _ => by simp at hl
  | i :: is, v :: vs, p :: ps, σ, env, env', e, hl, sa, hT, k => by
    refine ⟨v, vs, rfl, ?_⟩
    show gNames is vs (σ.set i (some v)) H Q
    have nb : ∀ w, (w, Bw.b i) ∉ T ++ vs.zip (ps.map fun p => Bw.t (.sh p)) := fun w hm => by
      rcases List.mem_append.mp hm with z | z
      · exact hT i List.mem_cons_self w z
      · have := List.of_mem_zip z
        simp at this
    have sa2 : SA K H0 M0 σ env (T ++ vs.zip (ps.map fun p => Bw.t (.sh p)) ++ [(v, .t (.sh p))]) H := by
      refine sa.perm ?_
      rw [List.append_assoc]
      refine List.Perm.append_left _ ?_
      simp only [List.map_cons, List.zip_cons_cons]
      exact List.perm_append_comm (l₁ := [(v, Bw.t (.sh p))])
    refine names_ok (σ := σ.set i (some v)) e (by simpa using hl) (sa2.set' nb) (fun j hj => hT j (List.mem_cons_of_mem _ hj)) fun σ2 s2 l2 g2 => ?_
    refine k σ2 s2 (by rw [l2, List.length_set]) fun j hj => ?_
    simp only [List.mem_cons, not_or] at hj
    rw [g2 j hj.2, List.getElem?_set_ne (Ne.symm hj.1)]
theorem bind_ok {t : Tg} {p : PV} {env' : PEnv} {x : V} {Q : L2.St → Hp → Prop} (e : bindT t p env = some env') (sa : SA K H0 M0 σ env (T ++ [(x, .t (.sh p))]) H) (hT : ∀ i ∈ tgSl t, ∀ v, (v, Bw.b i) ∉ T)
    (k : ∀ σ2, SA K H0 M0 σ2 env' T H → σ2.length = σ.length → (∀ j, j ∉ tgSl t → σ2[j]? = σ[j]?) → Q σ2 H) : gT K t x σ H Q := by
  cases t with
  | name i =>
    cases e
    refine k _ (sa.set' (hT i (by simp [tgSl]))) (List.length_set ..) fun j hj => ?_
    simp only [tgSl, List.mem_singleton] at hj
    rw [List.getElem?_set_ne (Ne.symm hj)]
  | tup is =>
    cases p with
    | tup ps =>
      obtain ⟨E, M, sx⟩ := id sa
      obtain ⟨a, vs, rfl, h1, r1⟩ := (sx.get (v := x) (s := .sh (.tup ps)) (x := .t (.sh (.tup ps))) (by simp) rfl).tup rfl sx.same
      have hlen : ∀ {is : List Nat} {ps : List PV} {env : PEnv}, setAll is ps env = some env' → is.length = ps.length := by
        intro is
        induction is with
        | nil => intro ps env e; cases ps with
          | nil => rfl
          | cons p ps => simp [setAll] at e
        | cons i is ih => intro ps env e; cases ps with
          | nil => simp [setAll] at e
          | cons p ps => simp only [List.length_cons]; rw [ih (ps := ps) e]
      refine ⟨a, vs, rfl, h1, by rw [r1.length]; exact (hlen e).symm, ?_⟩
      have sa2 : SA K H0 M0 σ env (T ++ vs.zip (ps.map fun p => Bw.t (.sh p))) H := SA.mid (A := [(.ref a, .t (.sh (.tup ps)))]) ⟨E, M, sx.pushes r1⟩
      exact names_ok e r1.length sa2 hT k
    | _ => simp [bindT] at e

/-! ### what is walked -/
def Walks (K : PySem.W.Frag) (H0 M0 : Hp) (S : List (V × Bw)) (ps : List PV) (J : It) : Prop := ∀ (i : Nat) (σ : L2.St) (env : PEnv) (T : List (V × Bw)) (H : Hp), (∀ e ∈ S, e ∈ T) → SA K H0 M0 σ env T H →
  (∀ p, ps[i]? = some p → J.go i H ∧ ∀ x H', J.yld i H x H' → SA K H0 M0 σ env (T ++ [(x, .t (.sh p))]) H') ∧ (ps.length ≤ i → J.stop i H)
def tIs (K : PySem.W.Frag) (f : PEnv → Option (List PV × PEnv)) : TI := fun σ H R => ∃ H0 M0 env T r, f env = some r ∧ SA K H0 M0 σ env T H ∧ ∀ J H' S, noB S → SA K H0 M0 σ r.2 (T ++ S) H' → Walks K H0 M0 S r.1 J → R J H'
theorem SAx.shl (h : SAx K H0 M0 σ env T H E M) {a : Addr} {ps : List PV} (hm : (V.ref a, Bw.t (.sh (.lst ps))) ∈ T) : ∃ vs, SqL K H a vs ∧ Reps K M vs ps := by
  obtain ⟨b, vs, e, h1, r1⟩ := (h.get (s := .sh (.lst ps)) hm rfl).lst rfl h.same
  cases e
  exact ⟨vs, h1, r1⟩
theorem SAx.sht (h : SAx K H0 M0 σ env T H E M) {a : Addr} {ps : List PV} (hm : (V.ref a, Bw.t (.sh (.tup ps))) ∈ T) : ∃ vs, SqT K H a vs ∧ Reps K M vs ps := by
  obtain ⟨b, vs, e, h1, r1⟩ := (h.get (s := .sh (.tup ps)) hm rfl).tup rfl h.same
  cases e
  exact ⟨vs, h1, r1⟩
theorem walks_lst {a : Addr} {ps : List PV} (hm : (V.ref a, Bw.t (.sh (.lst ps))) ∈ T) : Walks K H0 M0 T ps (Itl K a) := by
  intro i σ env T2 H hS sa
  obtain ⟨E, M, sx⟩ := sa
  obtain ⟨vs, h1, r1⟩ := sx.shl (a := a) (ps := ps) (hS _ hm)
  refine ⟨fun p e => ?_, fun hl => ⟨vs, h1, by rw [r1.length]; exact hl⟩⟩
  obtain ⟨v, e2, r2⟩ := r1.get e
  refine ⟨⟨vs, v, h1, e2⟩, fun x H' y => ?_⟩
  obtain ⟨rfl, q⟩ := y
  have := (q vs h1).symm.trans e2
  cases this
  exact sx.push r2
theorem walks_tup {a : Addr} {ps : List PV} (hm : (V.ref a, Bw.t (.sh (.tup ps))) ∈ T) : Walks K H0 M0 T ps (Itt K a) := by
  intro i σ env T2 H hS sa
  obtain ⟨E, M, sx⟩ := sa
  obtain ⟨vs, h1, r1⟩ := sx.sht (a := a) (ps := ps) (hS _ hm)
  refine ⟨fun p e => ?_, fun hl => ⟨vs, h1, by rw [r1.length]; exact hl⟩⟩
  obtain ⟨v, e2, r2⟩ := r1.get e
  refine ⟨⟨vs, v, h1, e2⟩, fun x H' y => ?_⟩
  obtain ⟨rfl, q⟩ := y
  have := (q vs h1).symm.trans e2
  cases this
  exact sx.push r2
theorem walks_range (lo : Int) (n : Nat) : Walks K H0 M0 T (rangeL lo n) (Itr lo n) := by
  intro i σ env T2 H hS sa
  obtain ⟨E, M, sx⟩ := sa
  refine ⟨fun p e => ?_, fun hl => (show n ≤ i by simpa [rangeL] using hl)⟩
  have hi : i < n := by
    have := (List.getElem?_eq_some_iff.mp e).1
    simpa [rangeL] using this
  refine ⟨hi, fun x H' y => ?_⟩
  obtain ⟨rfl, rfl⟩ := y
  have e2 : p = .int (lo + (i : Int)) := by
    simp only [rangeL, List.getElem?_map, List.getElem?_range hi, Option.map_some, Option.some.injEq] at e
    exact e.symm
  subst e2
  exact sx.push (.int _)
theorem walks_str (s : Str) : Walks K H0 M0 T (s.cps.toList.map fun c => PV.str ⟨#[c]⟩) (Its s) := by
  intro i σ env T2 H hS sa
  obtain ⟨E, M, sx⟩ := sa
  refine ⟨fun p e => ?_, fun hl => (show s.cps.size ≤ i by simpa using hl)⟩
  have hi : i < s.cps.size := by
    have := (List.getElem?_eq_some_iff.mp e).1
    simpa using this
  refine ⟨hi, fun x H' y => ?_⟩
  obtain ⟨rfl, c, h1, rfl⟩ := y
  have e2 : p = .str ⟨#[c]⟩ := by
    simp only [List.getElem?_map, Option.map_eq_some_iff, Array.getElem?_toList] at e
    obtain ⟨c', e3, rfl⟩ := e
    rw [h1] at e3; cases e3; rfl
  subst e2
  exact sx.push (.str _)
theorem pair_push (sx : SAx K H0 M0 σ env T H E M) {Q : Addr} {vs : List V} {ps : List PV} (hp : H Q = none) (r : Reps K M vs ps) : SA K H0 M0 σ env (T ++ [(.ref Q, .t (.sh (.tup ps)))]) (upd H Q (.tup vs)) := sx.tup hp r
theorem walks_enum {a : Addr} {ps : List PV} (hm : (V.ref a, Bw.t (.sh (.lst ps))) ∈ T) : Walks K H0 M0 T (enumL ps) (Ite K a) := by
  intro i σ env T2 H hS sa
  obtain ⟨E, M, sx⟩ := sa
  obtain ⟨vs, h1, r1⟩ := sx.shl (a := a) (ps := ps) (hS _ hm)
  refine ⟨fun p e => ?_, fun hl => ⟨vs, h1, by rw [r1.length]; simpa [enumL] using hl⟩⟩
  simp only [enumL, List.getElem?_zipWith] at e
  have hi : i < ps.length := by
    refine Nat.lt_of_not_le fun z => ?_
    have : (List.range ps.length)[i]? = none := List.getElem?_eq_none (by simpa using z)
    rw [this] at e
    cases e
  rw [List.getElem?_range hi, List.getElem?_eq_getElem hi] at e
  have e' : PV.tup [.int (i : Int), ps[i]] = p := by simpa using e
  obtain ⟨v, e2, r2⟩ := r1.get (List.getElem?_eq_getElem hi)
  refine ⟨⟨vs, v, h1, e2⟩, fun x H' y => ?_⟩
  obtain ⟨Q, w, rfl, hQ, rfl, q⟩ := y
  have := (q vs h1).symm.trans e2
  cases this
  rw [← e']
  exact sx.tup hQ (.cons (.int _) (.cons r2 .nil))
theorem walks_zipL {a b : Addr} {ps qs : List PV} (hm : (V.ref a, Bw.t (.sh (.lst ps))) ∈ T) (hm' : (V.ref b, Bw.t (.sh (.lst qs))) ∈ T) : Walks K H0 M0 T (ps.zipWith (fun x y => PV.tup [x, y]) qs) (Itz K a b) := by
  intro i σ env T2 H hS sa
  obtain ⟨E, M, sx⟩ := sa
  obtain ⟨vs, h1, r1⟩ := sx.shl (a := a) (ps := ps) (hS _ hm)
  obtain ⟨ws, h2, r2⟩ := sx.shl (a := b) (ps := qs) (hS _ hm')
  refine ⟨fun p e => ?_, fun hl => ⟨vs, ws, h1, h2, ?_⟩⟩
  · obtain ⟨x, y, e1, e2, rfl⟩ := List.getElem?_zipWith_eq_some.mp e
    obtain ⟨v, e3, r3⟩ := r1.get e1
    obtain ⟨w, e4, r4⟩ := r2.get e2
    refine ⟨⟨vs, ws, v, w, h1, h2, e3, e4⟩, fun z H' yy => ?_⟩
    obtain ⟨Q, v', w', rfl, hQ, rfl, q1, q2⟩ := yy
    have e5 := (q1 vs h1).symm.trans e3
    have e6 := (q2 ws h2).symm.trans e4
    cases e5; cases e6
    exact sx.tup hQ (.cons r3 (.cons r4 .nil))
  · rw [r1.length, r2.length]
    simp at hl
    omega
theorem walks_zipT {a b : Addr} {ps qs : List PV} (hm : (V.ref a, Bw.t (.sh (.tup ps))) ∈ T) (hm' : (V.ref b, Bw.t (.sh (.tup qs))) ∈ T) : Walks K H0 M0 T (ps.zipWith (fun x y => PV.tup [x, y]) qs) (RZ.ItzT K a b) := by
  intro i σ env T2 H hS sa
  obtain ⟨E, M, sx⟩ := sa
  obtain ⟨vs, h1, r1⟩ := sx.sht (a := a) (ps := ps) (hS _ hm)
  obtain ⟨ws, h2, r2⟩ := sx.sht (a := b) (ps := qs) (hS _ hm')
  refine ⟨fun p e => ?_, fun hl => ⟨vs, ws, h1, h2, ?_⟩⟩
  · obtain ⟨x, y, e1, e2, rfl⟩ := List.getElem?_zipWith_eq_some.mp e
    obtain ⟨v, e3, r3⟩ := r1.get e1
    obtain ⟨w, e4, r4⟩ := r2.get e2
    refine ⟨⟨vs, ws, v, w, h1, h2, e3, e4⟩, fun z H' yy => ?_⟩
    obtain ⟨Q, v', w', rfl, hQ, rfl, q1, q2⟩ := yy
    have e5 := (q1 vs h1).symm.trans e3
    have e6 := (q2 ws h2).symm.trans e4
    cases e5; cases e6
    exact sx.tup hQ (.cons r3 (.cons r4 .nil))
  · rw [r1.length, r2.length]
    simp at hl
    omega
theorem rev_at {α : Type} {xs : List α} {i : Nat} {p : α} (e : xs.reverse[i]? = some p) : i < xs.length ∧ xs[xs.length - 1 - i]? = some p := by
  have hi : i < xs.length := by
    have := (List.getElem?_eq_some_iff.mp e).1
    simpa using this
  exact ⟨hi, by rw [List.getElem?_reverse hi] at e; exact e⟩
theorem walks_revL {a : Addr} {ps : List PV} (hm : (V.ref a, Bw.t (.sh (.lst ps))) ∈ T) : Walks K H0 M0 T ps.reverse (Itv K a ps.length) := by
  intro i σ env T2 H hS sa
  obtain ⟨E, M, sx⟩ := sa
  obtain ⟨vs, h1, r1⟩ := sx.shl (a := a) (ps := ps) (hS _ hm)
  refine ⟨fun p e => ?_, fun hl => (show ps.length ≤ i by simpa using hl)⟩
  obtain ⟨hi, e1⟩ := rev_at e
  obtain ⟨v, e3, r3⟩ := r1.get e1
  refine ⟨⟨hi, vs, v, h1, e3⟩, fun x H' y => ?_⟩
  obtain ⟨rfl, q⟩ := y
  have := (q vs h1).symm.trans e3
  cases this
  exact sx.push r3
theorem walks_revT {a : Addr} {ps : List PV} (hm : (V.ref a, Bw.t (.sh (.tup ps))) ∈ T) : Walks K H0 M0 T ps.reverse (RT.ItvT K a ps.length) := by
  intro i σ env T2 H hS sa
  obtain ⟨E, M, sx⟩ := sa
  obtain ⟨vs, h1, r1⟩ := sx.sht (a := a) (ps := ps) (hS _ hm)
  refine ⟨fun p e => ?_, fun hl => (show ps.length ≤ i by simpa using hl)⟩
  obtain ⟨hi, e1⟩ := rev_at e
  obtain ⟨v, e3, r3⟩ := r1.get e1
  refine ⟨⟨hi, vs, v, h1, e3⟩, fun x H' y => ?_⟩
  obtain ⟨rfl, q⟩ := y
  have := (q vs h1).symm.trans e3
  cases this
  exact sx.push r3
end

section
variable {X : Cx} {e a b tg : Expr} {pos p tpos : Pos} {f g : PEnv → Option (Bw × PEnv)} {elts : List Expr} {kk : Nat}
theorem si_val (he : PE X e (tE X.K f)) : PI X tg e (tIs X.K fun env => (f env).bind fun r => (Mir.fix r.2 r.1).bind fun q => (items1 q.1).map fun xs => (xs, q.2)) := by
  refine PI_imp (PI_or (pi_list he) (PI_or (pi_tup he) (pi_str he))) fun σ H R q => ?_
  obtain ⟨H0, M0, env, T, r', e, sa, k⟩ := q
  obtain ⟨r1, e1, e⟩ := ob e
  obtain ⟨q, e2, e⟩ := ob e
  obtain ⟨xs, e3, rfl⟩ := om e
  obtain ⟨pq, eq⟩ := q
  cases pq with
  | lst ps =>
    cases e3
    refine .inl ⟨H0, M0, env, T, r1, e1, sa, fun v H' sa' => ?_⟩
    have sa2 := SA.fix (B := []) sa' e2
    obtain ⟨E, M, sx⟩ := id sa2
    obtain ⟨a, vs, rfl, h1, r1⟩ := (sx.get (v := v) (s := .sh (.lst xs)) (x := .t (.sh (.lst xs))) (by simp) rfl).lst rfl sx.same
    exact ⟨a, rfl, ⟨vs, h1⟩, k _ _ _ (noB.one _ _) sa2 (walks_lst (by simp))⟩
  | tup ps =>
    cases e3
    refine .inr (.inl ⟨H0, M0, env, T, r1, e1, sa, fun v H' sa' => ?_⟩)
    have sa2 := SA.fix (B := []) sa' e2
    obtain ⟨E, M, sx⟩ := id sa2
    obtain ⟨a, vs, rfl, h1, r1⟩ := (sx.get (v := v) (s := .sh (.tup xs)) (x := .t (.sh (.tup xs))) (by simp) rfl).tup rfl sx.same
    exact ⟨a, rfl, ⟨vs, h1⟩, k _ _ _ (noB.one _ _) sa2 (walks_tup (by simp))⟩
  | str z =>
    cases e3
    refine .inr (.inr ⟨H0, M0, env, T, r1, e1, sa, fun v H' sa' => ?_⟩)
    have sa2 := SA.fix (B := []) sa' e2
    obtain ⟨E, M, sx⟩ := id sa2
    exact ⟨z, (sx.get (v := v) (s := .sh (.str z)) (x := .t (.sh (.str z))) (by simp) rfl).str rfl, k _ _ _ (noB.one _ _) sa2 (walks_str z)⟩
  | _ => cases e3
theorem inR_iff {j : Int} (h : inR j = true) : -(2 ^ 62) ≤ j ∧ j < 2 ^ 62 := of_decide_eq_true h
theorem si_range1 (hg : Gl X "range") (hm : X.mg "range" = none) (he : PE X e (tE X.K f)) (hs : starEach [e] X.env = [(false, eval e X.env)]) :
    PI X tg (.Call (.Name "range" p) [e] [] pos) (tIs X.K fun env => (f env).bind fun r => match pvb r.2 r.1 with | some (.int j) => if inR j then some (rangeL 0 j.toNat, r.2) else none | _ => none) := by
  refine PI_imp (pi_range1 hg hm (pa_cons he pa_nil hs) hs) fun σ H R q => ?_
  obtain ⟨H0, M0, env, T, r', e, sa, k⟩ := q
  obtain ⟨r1, e1, e⟩ := ob e
  refine ⟨H0, M0, env, T, r1, e1, sa, fun v H' sa' => ?_⟩
  split at e
  · rename_i j e2
    split at e
    · rename_i hj
      cases e
      obtain ⟨E, M, sx⟩ := id sa'
      obtain ⟨s1, g1, g2⟩ := pvb_sl e2
      have := (sx.get (v := v) (by simp) g1).int g2
      subst this
      exact ⟨j, rfl, (inR_iff hj).1, (inR_iff hj).2, k _ _ [] noB.nil (by simpa using sa'.left) (walks_range 0 _)⟩
    · cases e
  · cases e
theorem si_range2 (hg : Gl X "range") (hm : X.mg "range" = none) (ha : PE X a (tE X.K f)) (hb : PE X b (tE X.K g)) (hs : starEach [a, b] X.env = [(false, eval a X.env), (false, eval b X.env)]) (hs2 : starEach [b] X.env = [(false, eval b X.env)]) :
    PI X tg (.Call (.Name "range" p) [a, b] [] pos) (tIs X.K fun env => (f env).bind fun r => (g r.2).bind fun q => match pvb q.2 r.1, pvb q.2 q.1 with
      | some (.int i), some (.int j) => if inR i && inR j then some (rangeL i (j - i).toNat, q.2) else none
      | _, _ => none) := by
  refine PI_imp (pi_range2 hg hm (pa_cons ha (pa_cons hb pa_nil hs2) (by rw [hs, hs2])) hs hs2) fun σ H R q => ?_
  obtain ⟨H0, M0, env, T, r', e, sa, k⟩ := q
  obtain ⟨r1, e1, e⟩ := ob e
  obtain ⟨r2, e2, e⟩ := ob e
  refine ⟨H0, M0, env, T, r1, e1, sa, fun v H1 sa1 => ⟨H0, M0, r1.2, _, r2, e2, sa1, fun w H2 sa2 => ?_⟩⟩
  split at e
  · rename_i i j e3 e4
    split at e
    · rename_i hj
      cases e
      simp only [Bool.and_eq_true] at hj
      obtain ⟨E, M, sx⟩ := id sa2
      obtain ⟨s1, g1, g2⟩ := pvb_sl e3
      obtain ⟨s2, g3, g4⟩ := pvb_sl e4
      have h1 := (sx.get (v := v) (by simp) g1).int g2
      have h2 := (sx.get (v := w) (by simp) g3).int g4
      subst h1 h2
      exact ⟨i, j, rfl, ⟨(inR_iff hj.1).1, (inR_iff hj.1).2, (inR_iff hj.2).1, (inR_iff hj.2).2⟩, k _ _ [] noB.nil (by simpa using (sa2.left).left) (walks_range i _)⟩
    · cases e
  · cases e
theorem si_enum (hg : Gl X "enumerate") (hm : X.mg "enumerate" = none) (he : PE X e (tE X.K f)) (hs : starEach [e] X.env = [(false, eval e X.env)]) :
    PI X (.Tuple elts kk tpos) (.Call (.Name "enumerate" p) [e] [] pos) (tIs X.K fun env => (f env).bind fun r => (Mir.fix r.2 r.1).bind fun q => match q.1 with | .lst xs => some (enumL xs, q.2) | _ => none) := by
  refine PI_imp (pi_enum hg hm (pa_cons he pa_nil hs) hs) fun σ H R q => ?_
  obtain ⟨H0, M0, env, T, r', e, sa, k⟩ := q
  obtain ⟨r1, e1, e⟩ := ob e
  obtain ⟨q, e2, e⟩ := ob e
  refine ⟨H0, M0, env, T, r1, e1, sa, fun v H' sa' => ?_⟩
  have sa2 := SA.fix (B := []) sa' e2
  obtain ⟨pq, eq⟩ := q
  cases pq with
  | lst ps =>
    cases e
    obtain ⟨E, M, sx⟩ := id sa2
    obtain ⟨a, vs, rfl, h1, r1⟩ := (sx.get (v := v) (s := .sh (.lst ps)) (x := .t (.sh (.lst ps))) (by simp) rfl).lst rfl sx.same
    exact ⟨a, vs, rfl, h1, k _ _ _ (noB.one _ _) sa2 (walks_enum (by simp))⟩
  | _ => cases e
theorem si_rev (hg : Gl X "reversed") (hm : X.mg "reversed" = none) (he : PE X e (tE X.K f)) (hs : starEach [e] X.env = (false, eval e X.env) :: starEach [] X.env) :
    PI X tg (.Call (.Name "reversed" p) [e] [] pos) (tIs X.K fun env => (f env).bind fun r => (Mir.fix r.2 r.1).bind fun q => match q.1 with | .lst xs => some (xs.reverse, q.2) | .tup xs => some (xs.reverse, q.2) | _ => none) := by
  refine PI_imp (RT.pi_revA hg hm he hs) fun σ H R q => ?_
  obtain ⟨H0, M0, env, T, r', e, sa, k⟩ := q
  obtain ⟨r1, e1, e⟩ := ob e
  obtain ⟨q, e2, e⟩ := ob e
  refine ⟨H0, M0, env, T, r1, e1, sa, fun v H' sa' => ?_⟩
  have sa2 := SA.fix (B := []) sa' e2
  obtain ⟨pq, eq⟩ := q
  cases pq with
  | lst ps =>
    cases e
    obtain ⟨E, M, sx⟩ := id sa2
    obtain ⟨a, vs, rfl, h1, r1⟩ := (sx.get (v := v) (s := .sh (.lst ps)) (x := .t (.sh (.lst ps))) (by simp) rfl).lst rfl sx.same
    exact ⟨a, vs, rfl, .inl ⟨h1, by rw [r1.length]; exact k _ _ _ (noB.one _ _) sa2 (walks_revL (by simp))⟩⟩
  | tup ps =>
    cases e
    obtain ⟨E, M, sx⟩ := id sa2
    obtain ⟨a, vs, rfl, h1, r1⟩ := (sx.get (v := v) (s := .sh (.tup ps)) (x := .t (.sh (.tup ps))) (by simp) rfl).tup rfl sx.same
    exact ⟨a, vs, rfl, .inr ⟨h1, by rw [r1.length]; exact k _ _ _ (noB.one _ _) sa2 (walks_revT (by simp))⟩⟩
  | _ => cases e
theorem si_zip (hg : Gl X "zip") (hm : X.mg "zip" = none) (ha : PE X a (tE X.K f)) (hb : PE X b (tE X.K g)) (hs : starEach [a, b] X.env = (false, eval a X.env) :: starEach [b] X.env) (hs2 : starEach [b] X.env = [(false, eval b X.env)]) :
    PI X (.Tuple elts kk tpos) (.Call (.Name "zip" p) [a, b] [] pos) (tIs X.K fun env => (f env).bind fun r => (g r.2).bind fun q => (Mir.fixs q.2 [r.1, q.1]).bind fun z => match z.1 with
    | [x, y] => (zipL x y).map fun xs => (xs, z.2)
    | _ => none) := by
  refine PI_imp (RZ.pi_zipA hg hm (pa_cons ha (pa_cons hb pa_nil hs2) hs) hs (by rw [hs2]; rfl)) fun σ H R q => ?_
  obtain ⟨H0, M0, env, T, r', e, sa, k⟩ := q
  obtain ⟨r1, e1, e⟩ := ob e
  obtain ⟨r2, e2, e⟩ := ob e
  obtain ⟨z, e3, e⟩ := ob e
  refine ⟨H0, M0, env, T, r1, e1, sa, fun v H1 sa1 => ⟨H0, M0, r1.2, _, r2, e2, sa1, fun w H2 sa2 => ?_⟩⟩
  obtain ⟨hl, sa3⟩ := SA.fixs (vs := [v, w]) (A := T) (B := []) rfl (by simpa using sa2) e3
  obtain ⟨zs, ez⟩ := z
  match zs, hl with
  | [x, y], _ =>
    obtain ⟨xs, e4, rfl⟩ := om e
    have sa4 : SA X.K H0 M0 σ ez (T ++ [(v, .t (.sh x)), (w, .t (.sh y))]) H2 := by simpa using sa3
    have nb : noB [(v, Bw.t (.sh x)), (w, Bw.t (.sh y))] := fun u i h => by simp at h
    obtain ⟨E, M, sx⟩ := id sa4
    cases x with
    | lst ps =>
      cases y with
      | lst qs =>
        cases e4
        obtain ⟨a, vs, rfl, h1, _⟩ := (sx.get (v := v) (s := .sh (.lst ps)) (x := .t (.sh (.lst ps))) (by simp) rfl).lst rfl sx.same
        obtain ⟨b, ws, rfl, h2, _⟩ := (sx.get (v := w) (s := .sh (.lst qs)) (x := .t (.sh (.lst qs))) (by simp) rfl).lst rfl sx.same
        exact ⟨a, b, vs, ws, rfl, .inl ⟨h1, h2, k _ _ _ nb sa4 (walks_zipL (by simp) (by simp))⟩⟩
      | _ => cases e4
    | tup ps =>
      cases y with
      | tup qs =>
        cases e4
        obtain ⟨a, vs, rfl, h1, _⟩ := (sx.get (v := v) (s := .sh (.tup ps)) (x := .t (.sh (.tup ps))) (by simp) rfl).tup rfl sx.same
        obtain ⟨b, ws, rfl, h2, _⟩ := (sx.get (v := w) (s := .sh (.tup qs)) (x := .t (.sh (.tup qs))) (by simp) rfl).tup rfl sx.same
        exact ⟨a, b, vs, ws, rfl, .inr ⟨h1, h2, k _ _ _ nb sa4 (walks_zipT (by simp) (by simp))⟩⟩
      | _ => cases e4
    | _ => cases e4
end
end Mir
/-! Mir8: comprehensions; statements. -/
namespace Mir
open PySem PySem.Spec PyProof.Rows L2

/-! ### comprehensions -/
def compStep (t : Tg) (vs : List Nat) (fc : PEnv → Option (Bool × PEnv)) (fe : PEnv → Option (Bw × PEnv)) (p : PV) (e : PEnv) : Option (Option PV × PEnv) :=
  (bindT t p e).bind fun e1 => (fc e1).bind fun c => if c.1 then (fe c.2).bind fun x => (fix x.2 x.1).map fun y => (some y.1, wipeE vs y.2) else some (none, wipeE vs c.2)
def compF (t : Tg) (own : List (Str × Nat)) (fi : PEnv → Option (List PV × PEnv)) (fc : PEnv → Option (Bool × PEnv)) (fe : PEnv → Option (Bw × PEnv)) (env : PEnv) : Option (Bw × PEnv) :=
  (fi env).bind fun r => if (own.map (·.2)).all (shN r.2) then
      (compL (compStep t (own.map (·.2)) fc fe) r.1 (wipeE (own.map (·.2)) r.2) []).map fun q => (.t (.own q.1), backE r.2 (own.map (·.2)) (wipeE (own.map (·.2)) q.2))
    else none
theorem wipe_wipe (σ : L2.St) (vs : List Nat) : wipe (wipe σ vs) vs = wipe σ vs := wipe_eq (wipe_length σ vs) fun i hi => wipe_get hi
/-- what is lent from a slot that is covered, as a value of its own meanwhile -/
def cov (env : PEnv) (vs : List Nat) (e : V × Bw) : V × Bw := match e with
  | (v, .b i) => if vs.contains i then (match env.getD i none with | some s => (v, .t s) | none => (v, .b i)) else (v, .b i)
  | (v, .t s) => (v, .t s)
/-- what stands in the slots that are covered -/
def kept (σ : L2.St) (env : PEnv) (vs : List Nat) : List (V × Bw) := vs.filterMap fun i => match σ[i]?, env.getD i none with
  | some (some v), some s => some (v, .t s)
  | _, _ => none
section
variable {K : PySem.W.Frag} {H0 M0 H M : Hp} {σ : L2.St} {env : PEnv} {T : List (V × Bw)} {E : List (V × Sl)} {vs : List Nat}
theorem shN_sh {i : Nat} {s : Sl} (h : shN env i = true) (e : env.getD i none = some s) : ∃ p, s = .sh p := by
  unfold shN at h
  rw [e] at h
  cases s with
  | sh p => exact ⟨p, rfl⟩
  | own xs => cases h
theorem addrs_app (A B : List (V × Sl)) : addrs (A ++ B) = addrs A ++ addrs B := List.filterMap_append
theorem addrs_none {A : List (V × Sl)} (h : ∀ e ∈ A, ∃ p, e.2 = .sh p) : addrs A = [] := by
  induction A with
  | nil => rfl
  | cons e A ih =>
    obtain ⟨v, s⟩ := e
    obtain ⟨p, hp⟩ := h _ List.mem_cons_self
    have e1 : s = .sh p := hp
    subst e1
    rw [addrs_sh]
    exact ih fun e he => h e (List.mem_cons_of_mem _ he)
theorem cov_addrs (hsh : vs.all (shN env) = true) : ∀ T : List (V × Bw), addrs (tents (T.map (cov env vs))) = addrs (tents T)
  | [] => rfl
  | (v, .t s) :: T => by
    show addrs ((v, s) :: tents (T.map (cov env vs))) = addrs ((v, s) :: tents T)
    cases s with
    | sh p => rw [addrs_sh, addrs_sh]; exact cov_addrs hsh T
    | own xs =>
      have ih := cov_addrs hsh T
      cases v <;> first | exact congrArg (List.cons _) ih | exact ih
  | (v, .b i) :: T => by
    have ih := cov_addrs hsh T
    rw [List.map_cons]
    by_cases hi : vs.contains i = true
    · cases q : env.getD i none with
      | none =>
        have e : cov env vs (v, .b i) = (v, .b i) := by simp only [cov, hi, if_true, q]
        rw [e]
        exact ih
      | some s =>
        have e : cov env vs (v, .b i) = (v, .t s) := by simp only [cov, hi, if_true, q]
        rw [e]
        obtain ⟨p, rfl⟩ := shN_sh (List.all_eq_true.mp hsh i (by rwa [List.contains_iff_mem] at hi)) q
        show addrs ((v, .sh p) :: tents (T.map (cov env vs))) = addrs (tents T)
        rw [addrs_sh]
        exact ih
    · have e : cov env vs (v, .b i) = (v, .b i) := by simp only [cov, if_neg hi]
      rw [e]
      exact ih
theorem kept_sh (hsh : vs.all (shN env) = true) : ∀ e ∈ kept σ env vs, ∃ p i, e.2 = .t (.sh p) ∧ i ∈ vs ∧ σ[i]? = some (some e.1) ∧ env.getD i none = some (.sh p) := fun e he => by
  obtain ⟨i, hi, q⟩ := List.mem_filterMap.mp he
  cases h1 : σ[i]? with
  | none => rw [h1] at q; cases q
  | some ov =>
    cases ov with
    | none => rw [h1] at q; cases q
    | some v =>
      cases h2 : env.getD i none with
      | none => rw [h1, h2] at q; cases q
      | some s =>
        rw [h1, h2] at q
        cases q
        obtain ⟨p, rfl⟩ := shN_sh (List.all_eq_true.mp hsh i hi) h2
        exact ⟨p, i, rfl, hi, h1, h2⟩
/-- ahead of the block -/
theorem SA.cover (h : SA K H0 M0 σ env T H) (hsh : vs.all (shN env) = true) : SA K H0 M0 σ env (T.map (cov env vs) ++ kept σ env vs) H ∧ (∀ i ∈ vs, ∀ v, (v, Bw.b i) ∉ T.map (cov env vs) ++ kept σ env vs) := by
  obtain ⟨E, M, sx⟩ := h
  have hslot : ∀ (i : Nat) (v : V) (p : PV), σ[i]? = some (some v) → env.getD i none = some (.sh p) → Rep K M v p := fun i v p h1 h2 => by
    obtain ⟨v', g1, g2⟩ := sx.var h2
    rw [h1] at g1; cases g1
    exact g2
  have hmem : ∀ e ∈ tents (T.map (cov env vs) ++ kept σ env vs), SlOk K H0 M H e.1 e.2 := fun e he => by
    obtain ⟨⟨v, x⟩, hx, q⟩ := List.mem_filterMap.mp he
    cases x with
    | b i => cases q
    | t s =>
      cases q
      rcases List.mem_append.mp hx with z | z
      · obtain ⟨⟨v', x'⟩, hx', q'⟩ := List.mem_map.mp z
        cases x' with
        | t s' =>
          cases q'
          exact sx.get hx' rfl
        | b i =>
          by_cases hi : vs.contains i = true
          · cases q2 : env.getD i none with
            | none =>
              have e : cov env vs (v', .b i) = (v', .b i) := by simp only [cov, hi, if_true, q2]
              rw [e] at q'; cases q'
            | some s' =>
              have e : cov env vs (v', .b i) = (v', .t s') := by simp only [cov, hi, if_true, q2]
              rw [e] at q'; cases q'
              exact sx.get hx' q2
          · have e : cov env vs (v', .b i) = (v', .b i) := by simp only [cov, if_neg hi]
            rw [e] at q'; cases q'
      · obtain ⟨p, i, h1, h2, h3, h4⟩ := kept_sh hsh _ z
        cases h1
        exact hslot i v p h3 h4
  have hb : ∀ v i, (v, Bw.b i) ∈ T.map (cov env vs) ++ kept σ env vs → (v, Bw.b i) ∈ T ∧ (i ∈ vs → env.getD i none = none) := fun v i hm => by
    rcases List.mem_append.mp hm with z | z
    · obtain ⟨⟨v', x'⟩, hx', q'⟩ := List.mem_map.mp z
      cases x' with
      | t s' => cases q'
      | b j =>
        by_cases hi : vs.contains j = true
        · cases q2 : env.getD j none with
          | none =>
            have e : cov env vs (v', .b j) = (v', .b j) := by simp only [cov, hi, if_true, q2]
            rw [e] at q'; cases q'
            exact ⟨hx', fun _ => q2⟩
          | some s' =>
            have e : cov env vs (v', .b j) = (v', .t s') := by simp only [cov, hi, if_true, q2]
            rw [e] at q'; cases q'
        · have e : cov env vs (v', .b j) = (v', .b j) := by simp only [cov, if_neg hi]
          rw [e] at q'; cases q'
          exact ⟨hx', fun z => absurd (by rw [List.contains_iff_mem]; exact z) hi⟩
    · obtain ⟨p, j, h1, _⟩ := kept_sh hsh _ z
      cases h1
  refine ⟨⟨E, M, sx.lv, ⟨sx.hyp.sub, sx.hyp.low, sx.hyp.new, sx.hyp.old, fun e he => ?_, ?_⟩, fun v i hm => sx.bor v i (hb v i hm).1⟩, fun i hi v hm => ?_⟩
  · rcases List.mem_append.mp he with z | z
    · exact sx.hyp.ok e (List.mem_append_left _ z)
    · exact hmem e z
  · rw [tents_append, addrs_app, addrs_app, cov_addrs hsh, addrs_none (A := tents (kept σ env vs)), List.append_nil, ← addrs_app]
    · exact sx.hyp.nd
    · intro e he
      obtain ⟨⟨v, x⟩, hx, q⟩ := List.mem_filterMap.mp he
      obtain ⟨p, i, h1, _⟩ := kept_sh hsh _ hx
      have e1 : x = .t (.sh p) := h1
      subst e1
      cases q
      exact ⟨p, rfl⟩
  · obtain ⟨h1, h2⟩ := hb v i hm
    have := (sx.bor v i h1).2
    rw [h2 hi] at this
    cases this
theorem set_same {σ : L2.St} {i : Nat} {x : Option V} (h : σ[i]? = some x) : σ.set i x = σ := by
  apply List.ext_getElem?
  intro j
  by_cases e : i = j
  · subst e
    have hl := (List.getElem?_eq_some_iff.mp h).1
    rw [List.getElem?_set_self hl, h]
  · rw [List.getElem?_set_ne e]
theorem backE_get {old : PEnv} : ∀ {vs : List Nat} {env : PEnv} {i : Nat}, i ∉ vs → (backE old vs env).getD i none = env.getD i none
  | [], _, _, _ => rfl
  | v :: vs, env, i, h => by
    simp only [List.mem_cons, not_or] at h
    unfold backE
    rw [getD_set_ne (Ne.symm h.1)]
    exact backE_get h.2
theorem backE_length {old : PEnv} : ∀ {vs : List Nat} {env : PEnv}, (backE old vs env).length = env.length
  | [], _ => rfl
  | v :: vs, env => by unfold backE; rw [List.length_set]; exact backE_length
theorem backE_in {old : PEnv} : ∀ {vs : List Nat} {env : PEnv} {i : Nat}, i ∈ vs → i < env.length → (backE old vs env).getD i none = old.getD i none
  | v :: vs, env, i, h, hl => by
    unfold backE
    by_cases e : v = i
    · subst e
      simp [List.getD_eq_getElem?_getD, backE_length, hl]
    · rw [getD_set_ne e]
      exact backE_in (by simpa [Ne.symm e] using h) hl
/-- behind the block: what the slots held -/
theorem SA.back {old : PEnv} {A : List (V × Bw)} (hsh : vs.all (shN old) = true) (hk : ∀ i ∈ vs, ∀ p, old.getD i none = some (.sh p) → ∃ v, σ[i]? = some (some v) ∧ (v, Bw.t (.sh p)) ∈ A) :
    ∀ (ws : List Nat), (∀ i ∈ ws, i ∈ vs) → SA K H0 M0 σ env A H → (∀ i ∈ ws, ∀ v, (v, Bw.b i) ∉ A) → SA K H0 M0 σ (backE old ws env) A H
  | [], _, h, _ => h
  | i :: ws, hw, h, hb => by
    have ih := SA.back hsh hk ws (fun j hj => hw j (List.mem_cons_of_mem _ hj)) h fun j hj => hb j (List.mem_cons_of_mem _ hj)
    unfold backE
    cases q : old.getD i none with
    | none =>
      have := ih.wipe1 (i := i) (hb i List.mem_cons_self) (σ.getD i none)
      by_cases hl : i < σ.length
      · have e : σ.set i (σ.getD i none) = σ := set_same (by rw [List.getD_eq_getElem?_getD, List.getElem?_eq_getElem hl]; rfl)
        rw [e] at this
        exact this
      · rw [List.set_eq_of_length_le (by omega)] at this
        exact this
    | some s =>
      obtain ⟨p, rfl⟩ := shN_sh (List.all_eq_true.mp hsh i (hw i List.mem_cons_self)) q
      obtain ⟨v, h1, h2⟩ := hk i (hw i List.mem_cons_self) p q
      obtain ⟨E, M, sx⟩ := ih
      have r : Rep K M v p := sx.get (s := .sh p) h2 rfl
      have := SA.set' (sx.push r) (hb i List.mem_cons_self)
      rw [set_same h1] at this
      exact this
/-- .. and what was lent -/
theorem SA.uncover {env0 : PEnv} {B : List (V × Bw)} (h0 : ∀ v i, (v, Bw.b i) ∈ T → σ[i]? = some (some v) ∧ (env0.getD i none).isSome) (h : SA K H0 M0 σ env (T.map (cov env0 vs) ++ B) H)
    (he : ∀ i ∈ vs, (env0.getD i none).isSome → (env.getD i none).isSome) : SA K H0 M0 σ env (T ++ B) H := by
  obtain ⟨E, M, sx⟩ := h
  have sub : ∀ T : List (V × Bw), List.Sublist (tents T) (tents (T.map (cov env0 vs))) := by
    intro T
    induction T with
    | nil => exact .refl _
    | cons e T ih =>
      obtain ⟨v, x⟩ := e
      rw [List.map_cons]
      cases x with
      | t s => exact ih.cons₂ _
      | b i =>
        show List.Sublist (tents T) (tents (cov env0 vs (v, .b i) :: T.map (cov env0 vs)))
        by_cases hi : vs.contains i = true
        · cases q : env0.getD i none with
          | none =>
            have e : cov env0 vs (v, .b i) = (v, .b i) := by simp only [cov, hi, if_true, q]
            rw [e]
            exact ih
          | some s =>
            have e : cov env0 vs (v, .b i) = (v, .t s) := by simp only [cov, hi, if_true, q]
            rw [e]
            exact ih.trans (List.sublist_cons_self _ _)
        · have e : cov env0 vs (v, .b i) = (v, .b i) := by simp only [cov, if_neg hi]
          rw [e]
          exact ih
  refine ⟨E, M, sx.lv, sx.hyp.sublist (List.Sublist.append_left ?_ E), fun v i hm => ?_⟩
  · rw [tents_append, tents_append]
    exact List.Sublist.append_right (sub T) _
  · rcases List.mem_append.mp hm with z | z
    · obtain ⟨g1, g2⟩ := h0 v i z
      refine ⟨g1, ?_⟩
      by_cases hi : i ∈ vs
      · exact he i hi g2
      · have hi' : ¬ vs.contains i = true := by rw [List.contains_iff_mem]; exact hi
        have e : cov env0 vs (v, .b i) = (v, .b i) := by simp only [cov, if_neg hi']
        exact (sx.bor v i (List.mem_append_left _ (List.mem_map.mpr ⟨_, z, e⟩))).2
    · exact sx.bor v i (List.mem_append_right _ z)
end
theorem lc_ok {K : PySem.W.Frag} {t : Tg} {own : List (Str × Nat)} {fi : PEnv → Option (List PV × PEnv)} {fc : PEnv → Option (Bool × PEnv)} {fe : PEnv → Option (Bw × PEnv)} (hown : ∀ i ∈ tgSl t, i ∈ own.map (·.2)) {σ : L2.St} {H : Hp} {Q : VK}
    (q : tE K (compF t own fi fc fe) σ H Q) : tLc (tIs K fi) (gT K t) (tTs K fc) (tE K fe) (own.map (·.2)) σ H Q := by
  obtain ⟨H0, M0, env, T, r', e, sa, k⟩ := q
  obtain ⟨r1, e1, e⟩ := ob e
  split at e
  · rename_i hsh
    obtain ⟨q, e2, rfl⟩ := om e
    refine ⟨H0, M0, env, T, r1, e1, sa, fun J H1 S nb sa1 wk => ?_⟩
    intro D hD
    generalize hvs : own.map (·.2) = vs at *
    obtain ⟨sac, hfree⟩ := sa1.cover hsh
    generalize hA : (T ++ S).map (cov r1.2 vs) ++ kept σ r1.2 vs = A at sac hfree
    have hSA : ∀ e ∈ S, e ∈ A := fun e he => by
      rw [← hA]
      refine List.mem_append_left _ (List.mem_map.mpr ⟨e, List.mem_append_right _ he, ?_⟩)
      obtain ⟨v, x⟩ := e
      cases x with
      | t s => rfl
      | b i => exact absurd he (nb v i)
    have hfree2 : ∀ (acc : List PV), ∀ i ∈ vs, ∀ v, (v, Bw.b i) ∉ A ++ [(V.ref D, Bw.t (.own acc))] := fun acc i hi v hm => by
      rcases List.mem_append.mp hm with z | z
      · exact hfree i hi v z
      · simp at z
    have sa2 : SA K H0 M0 (wipe σ vs) (wipeE vs r1.2) (A ++ [(.ref D, .t (.own []))]) (upd H1 D (.lst [])) := by
      obtain ⟨E, M, sx⟩ := sac.wipes hfree
      exact sx.lst hD .nil
    refine ⟨fun i m H' => m = r1.1.length - i ∧ i ≤ r1.1.length ∧ ∃ env' acc, SA K H0 M0 (wipe σ vs) env' (A ++ [(.ref D, .t (.own acc))]) H' ∧ compL (compStep t vs fc fe) (r1.1.drop i) env' acc = some q, ⟨r1.1.length, by simp, Nat.zero_le _, _, [], sa2, by simpa using e2⟩, ?_⟩
    rintro i m H2 ⟨rfl, hi, env', acc, sa3, ec⟩
    have wk' := wk i _ _ _ _ (fun e he => List.mem_append_left _ (hSA e he)) sa3
    by_cases hlt : i < r1.1.length
    · have hd : r1.1.drop i = r1.1[i] :: r1.1.drop (i + 1) := List.drop_eq_getElem_cons hlt
      rw [hd] at ec
      obtain ⟨st, es, ec⟩ := ob ec
      obtain ⟨go, yl⟩ := wk'.1 r1.1[i] (List.getElem?_eq_getElem hlt)
      refine .inr ⟨go, fun H' => i + 1 ≤ r1.1.length ∧ ∃ env' acc, SA K H0 M0 (wipe σ vs) env' (A ++ [(.ref D, .t (.own acc))]) H' ∧ compL (compStep t vs fc fe) (r1.1.drop (i + 1)) env' acc = some q,
        fun H' ⟨h1, h2⟩ => ⟨_, by omega, rfl, h1, h2⟩, fun x H' yy => ?_⟩
      have sa4 := yl x H' yy
      obtain ⟨b1, eb, es⟩ := ob es
      refine bind_ok eb sa4 (fun i hi => hfree2 acc i (hvs ▸ hown i hi)) fun σ2 sa5 l2 g2 => ?_
      have hw : wipe σ2 vs = wipe σ vs := by
        rw [← wipe_wipe σ vs]
        refine wipe_eq l2 fun j hj => g2 j fun z => hj (hvs ▸ hown j z)
      refine ⟨hw, ?_⟩
      obtain ⟨c, ecc, es⟩ := ob es
      refine ⟨H0, M0, b1, _, c, ecc, sa5, fun H3 sa6 => ?_⟩
      obtain ⟨cb, ce⟩ := c
      cases cb with
      | true =>
        rw [if_pos rfl] at es ⊢
        obtain ⟨xe, ee, es⟩ := ob es
        obtain ⟨y, ey, rfl⟩ := om es
        refine ⟨H0, M0, ce, _, xe, ee, sa6, fun v H4 sa7 => ?_⟩
        have sa8 := SA.fix (B := []) sa7 ey
        have sa9 : SA K H0 M0 σ2 y.2 (A ++ (.ref D, .t (.own acc)) :: [(v, .t (.sh y.1))]) H4 := by simpa using sa8
        obtain ⟨E, M, sx⟩ := sa9
        have so : SlOk K H0 M H4 (.ref D) (.own acc) := sx.get (x := .t (.own acc)) (by simp) rfl
        obtain ⟨a, ws, ea, h1, h2, h3, h4⟩ := so
        cases ea
        have rv : Rep K M v y.1 := sx.get (s := .sh y.1) (x := .t (.sh y.1)) (by simp) rfl
        have hlen : acc.length < lim := by
          refine Nat.lt_of_not_le fun z => ?_
          dsimp only at ec
          rw [if_neg (by omega)] at ec
          cases ec
        dsimp only at ec
        rw [if_pos hlen] at ec
        refine ⟨ws, h3, by rw [h4.length]; have := lim_eq; omega, hlt, wipeE vs y.2, acc ++ [y.1], ?_, ec⟩
        have sa10 : SA K H0 M0 σ2 y.2 (A ++ (.ref D, .t (.own (acc ++ [y.1]))) :: [(v, .t (.sh y.1))]) (upd H4 D (.lst (ws ++ [v]))) := ⟨E, M, sx.writeT (h4.snoc rv)⟩
        have sa11 : SA K H0 M0 σ2 y.2 (A ++ [(.ref D, .t (.own (acc ++ [y.1])))]) (upd H4 D (.lst (ws ++ [v]))) := SA.left (A := [(v, .t (.sh y.1))]) (by simpa using sa10)
        have := sa11.wipes (hfree2 _)
        rw [hw] at this
        exact this
      | false =>
        rw [if_neg Bool.false_ne_true] at es ⊢
        cases es
        refine ⟨hlt, wipeE vs ce, acc, ?_, ec⟩
        have := sa6.wipes (hfree2 _)
        rw [hw] at this
        exact this
    · have e0 : i = r1.1.length := by omega
      subst e0
      rw [List.drop_length] at ec
      simp only [compL, Option.some.injEq] at ec
      refine .inl ⟨wk'.2 (Nat.le_refl _), ?_⟩
      refine k _ _ ?_
      have s1 := sa3.unwipe (hfree2 acc)
      have hkept : ∀ i ∈ vs, ∀ p, r1.2.getD i none = some (.sh p) → ∃ v, σ[i]? = some (some v) ∧ (v, Bw.t (.sh p)) ∈ A ++ [(V.ref D, Bw.t (.own acc))] := fun i hi p hp => by
        obtain ⟨E, M, sx⟩ := id sa1
        obtain ⟨v, g1, _⟩ := sx.var hp
        refine ⟨v, g1, List.mem_append_left _ ?_⟩
        rw [← hA]
        refine List.mem_append_right _ (List.mem_filterMap.mpr ⟨i, hi, ?_⟩)
        rw [g1, hp]
      have s2 := SA.back (old := r1.2) hsh hkept vs (fun _ h => h) s1 (hfree2 acc)
      rw [← hA, List.append_assoc] at s2
      have s3 := SA.uncover (T := T ++ S) (fun v i hm => by
          obtain ⟨E, M, sx⟩ := id sa1
          exact sx.bor v i hm) s2 (fun i hi hs => by
          rw [backE_in hi]
          · exact hs
          · have l1 := s1.length
            have l2 := sa1.length
            rw [← l1, l2]
            refine Nat.lt_of_not_le fun z => ?_
            rw [List.getD_eq_getElem?_getD, List.getElem?_eq_none z] at hs
            cases hs)
      rw [← ec]
      have s4 : SA K H0 M0 σ (backE r1.2 vs (wipeE vs env')) (T ++ (S ++ kept σ r1.2 vs) ++ [(V.ref D, Bw.t (.own acc))]) H2 := by simpa using s3
      exact s4.mid
  · cases e
section
variable {X : Cx} {elt tg iter : Expr} {ifs : List Expr} {scope : Scope} {own : List (Str × Nat)} {pos : Pos} {t : Tg} {fi : PEnv → Option (List PV × PEnv)} {fc : PEnv → Option (Bool × PEnv)} {fe : PEnv → Option (Bw × PEnv)}
theorem se_comp (hown : ∀ i ∈ tgSl t, i ∈ own.map (·.2)) (hc : X.calm = true) (hN : X.N.Nodup) (hi : PI X tg iter (tIs X.K fi)) (ok : BlkOk X.N X.env.scope scope own)
    (hg : ∀ (s : Shared) (H : Hp) (C : Addr) (cl : List (Str × Addr)) (fp : List Addr), PG (X.blk s H scope (compEnvC scope cl C X.env) fp) tg (gT X.K t)) (ht : ∀ (s : Shared) (H : Hp) (C : Addr) (cl : List (Str × Addr)) (fp : List Addr), PTs (X.blk s H scope (compEnvC scope cl C X.env) fp) ifs (tTs X.K fc))
    (he : ∀ (s : Shared) (H : Hp) (C : Addr) (cl : List (Str × Addr)) (fp : List Addr), PE (X.blk s H scope (compEnvC scope cl C X.env) fp) elt (tE X.K fe)) (hs : ∀ x, foldedSetIterable iter X.env x = pure x) :
    PE X (.ListComp elt [⟨tg, iter, ifs, 0⟩] scope pos) (tE X.K (compF t own fi fc fe)) :=
  PE_imp (pe_lc hc hN hi ok hg ht he hs) fun σ H Q q => lc_ok hown q
end
theorem pts_yes {X : Cx} : PTs X [] (tTs X.K fun env => some (true, env)) := ⟨fun pins s σ H Q I q => by
  obtain ⟨H0, M0, env, T, r', e, sa, k⟩ := q
  cases e
  exact pts_nil.run pins s σ H Q I (k _ sa)⟩

/-! ### tests -/
section
variable {X : Cx} {a b : Expr} {pos : Pos} {f : PEnv → Option (Bw × PEnv)} {ft gt : PEnv → Option (Bool × PEnv)} {rest : List Expr}
theorem st_val (ha : PE X a (tE X.K f)) (he : ∀ whole, isTrue a X.env whole = (do let v ← whole; standAt a.pos; holding [v] (truthy v))) :
    PT X a (tTs X.K fun env => (f env).bind fun r => (pvb r.2 r.1).bind fun x => (truth x).map fun b => (b, r.2)) := by
  refine PT_imp (pt_truth ha he) fun σ H Q q => ?_
  obtain ⟨H0, M0, env, T, r', e, sa, k⟩ := q
  obtain ⟨r1, e1, e⟩ := ob e
  obtain ⟨p1, e2, e⟩ := ob e
  obtain ⟨z, e3, rfl⟩ := om e
  refine ⟨H0, M0, env, T, r1, e1, sa, fun v H1 sa1 => ?_⟩
  obtain ⟨E, M, sx⟩ := id sa1
  obtain ⟨s1, g1, rfl⟩ := pvb_sl e2
  exact ⟨z, tru_of sx (sx.get (by simp) g1) e3, k _ sa1.left⟩
theorem PW_imp {e : Expr} {t t' : TT} (h : PW X e t) (i : ∀ σ H Q, t' σ H Q → t σ H Q) : PW X e t' := ⟨fun w pins s σ H Q I q => h.run w pins s σ H Q I (i _ _ _ q)⟩
theorem st_and (ha : PT X a (tTs X.K ft)) (hb : PW X (.BoolOp .And (b :: rest) pos) (tTs X.K gt)) : PW X (.BoolOp .And (a :: b :: rest) pos) (tTs X.K fun env => (ft env).bind fun r => if r.1 then gt r.2 else some (false, r.2)) := by
  refine PW_imp (pw_and ha hb) fun σ H Q q => ?_
  obtain ⟨H0, M0, env, T, r', e, sa, k⟩ := q
  obtain ⟨r1, e1, e⟩ := ob e
  refine ⟨H0, M0, env, T, r1, e1, sa, fun H1 sa1 => ?_⟩
  obtain ⟨b1, env1⟩ := r1
  cases b1 with
  | true => exact ⟨H0, M0, env1, T, r', e, sa1, k⟩
  | false => cases e; exact k _ sa1
theorem st_or (ha : PT X a (tTs X.K ft)) (hb : PW X (.BoolOp .Or (b :: rest) pos) (tTs X.K gt)) : PW X (.BoolOp .Or (a :: b :: rest) pos) (tTs X.K fun env => (ft env).bind fun r => if r.1 then some (true, r.2) else gt r.2) := by
  refine PW_imp (pw_or ha hb) fun σ H Q q => ?_
  obtain ⟨H0, M0, env, T, r', e, sa, k⟩ := q
  obtain ⟨r1, e1, e⟩ := ob e
  refine ⟨H0, M0, env, T, r1, e1, sa, fun H1 sa1 => ?_⟩
  obtain ⟨b1, env1⟩ := r1
  cases b1 with
  | true => cases e; exact k _ sa1
  | false => exact ⟨H0, M0, env1, T, r', e, sa1, k⟩
theorem st_not (ha : PT X a (tTs X.K ft)) : PT X (.UnaryOp .Not a pos) (tTs X.K fun env => (ft env).map fun r => (!r.1, r.2)) := by
  refine PT_imp (pt_not ha) fun σ H Q q => ?_
  obtain ⟨H0, M0, env, T, r', e, sa, k⟩ := q
  obtain ⟨r1, e1, rfl⟩ := om e
  exact ⟨H0, M0, env, T, r1, e1, sa, fun H1 sa1 => k _ sa1⟩
end

/-! ### statements -/
def FlOk (K : PySem.W.Frag) (H0 M0 : Hp) (T : List (V × Bw)) (D : Ends) : Fl → Prop
  | .next e => ∀ σ H, SA K H0 M0 σ e T H → D.nx σ H
  | .brk e => ∀ σ H, SA K H0 M0 σ e T H → D.bk σ H
  | .ret s => ∀ v H M, Hyp K H0 M0 M H [(v, s)] → D.rt v H
def tSs (K : PySem.W.Frag) (f : PEnv → Option Fl) : TS := fun D σ H => ∃ H0 M0 env T r, f env = some r ∧ noB T ∧ SA K H0 M0 σ env T H ∧ FlOk K H0 M0 T D r
section
variable {X : Cx} {e c : Expr} {st : Stmt} {sts body : List Stmt} {pos : Pos} {f : PEnv → Option (Bw × PEnv)} {ft : PEnv → Option (Bool × PEnv)} {fs gs : PEnv → Option Fl}
theorem ss_nil : PSs X [] (tSs X.K fun env => some (.next env)) := by
  refine PSs_imp pss_nil fun D σ H q => ?_
  obtain ⟨H0, M0, env, T, r', e, nb, sa, k⟩ := q
  cases e
  exact k σ H sa
theorem ss_cons (h1 : PS X st (tSs X.K fs)) (h2 : PSs X sts (tSs X.K gs)) : PSs X (st :: sts) (tSs X.K fun env => (fs env).bind fun r => match r with | .next e => gs e | .ret v => some (.ret v) | .brk e => some (.brk e)) := by
  refine PSs_imp (pss_cons h1 h2) fun D σ H q => ?_
  obtain ⟨H0, M0, env, T, r', e, nb, sa, k⟩ := q
  obtain ⟨r1, e1, e⟩ := ob e
  refine ⟨H0, M0, env, T, r1, e1, nb, sa, ?_⟩
  cases r1 with
  | next e2 => exact fun σ' H' sa' => ⟨H0, M0, e2, T, r', e, nb, sa', k⟩
  | ret v => cases e; exact k
  | brk e2 => cases e; exact k
theorem ss_pass : PS X (.Pass pos) (tSs X.K fun env => some (.next env)) := by
  refine PS_imp ps_pass fun D σ H q => ?_
  obtain ⟨H0, M0, env, T, r', e, nb, sa, k⟩ := q
  cases e
  exact k σ H sa
theorem ss_brk : PS X (.Break pos) (tSs X.K fun env => some (.brk env)) := by
  refine PS_imp ps_break fun D σ H q => ?_
  obtain ⟨H0, M0, env, T, r', e, nb, sa, k⟩ := q
  cases e
  exact k σ H sa
theorem ss_expr (he : PE X e (tE X.K f)) (hs : swapsWith e none pos.line X.env = pure false) : PS X (.Expr e pos) (tSs X.K fun env => (f env).map fun r => .next r.2) := by
  refine PS_imp (ps_expr he hs) fun D σ H q => ?_
  obtain ⟨H0, M0, env, T, r', e, nb, sa, k⟩ := q
  obtain ⟨r1, e1, rfl⟩ := om e
  exact ⟨H0, M0, env, T, r1, e1, sa, fun v H' sa' => k σ H' sa'.left⟩
theorem ss_ret (he : PE X e (tE X.K f)) : PS X (.Return (some e) pos) (tSs X.K fun env => (f env).bind fun r => (Mir.fixO r.2 r.1).map fun q => .ret q.1) := by
  refine PS_imp (ps_ret he) fun D σ H q => ?_
  obtain ⟨H0, M0, env, T, r', e, nb, sa, k⟩ := q
  obtain ⟨r1, e1, e⟩ := ob e
  obtain ⟨q, e2, rfl⟩ := om e
  refine ⟨H0, M0, env, T, r1, e1, sa, fun v H' sa' => ?_⟩
  obtain ⟨E, M, sx⟩ := SA.fixO (B := []) sa' e2
  refine k v H' M (sx.hyp.sublist ?_)
  rw [tents_append]
  exact List.Sublist.trans (List.sublist_append_right (tents T) _) (List.sublist_append_right _ _)
theorem ss_retN : PS X (.Return none pos) (tSs X.K fun env => some (.ret (.sh .non))) := by
  refine PS_imp ps_retN fun D σ H q => ?_
  obtain ⟨H0, M0, env, T, r', e, nb, sa, k⟩ := q
  cases e
  obtain ⟨E, M, sx⟩ := sa
  exact k _ _ M ((sx.hyp.push .non).sublist (List.sublist_append_right _ _))
theorem ss_if (hc : PT X c (tTs X.K ft)) (ha : PSs X sts (tSs X.K fs)) (hb : PSs X body (tSs X.K gs)) : PS X (.If c sts body pos) (tSs X.K fun env => (ft env).bind fun r => if r.1 then fs r.2 else gs r.2) := by
  refine PS_imp (ps_if hc ha hb) fun D σ H q => ?_
  obtain ⟨H0, M0, env, T, r', e, nb, sa, k⟩ := q
  obtain ⟨r1, e1, e⟩ := ob e
  refine ⟨H0, M0, env, T, r1, e1, sa, fun H1 sa1 => ?_⟩
  obtain ⟨b1, env1⟩ := r1
  cases b1 with
  | true => exact ⟨H0, M0, env1, T, r', e, nb, sa1, k⟩
  | false => exact ⟨H0, M0, env1, T, r', e, nb, sa1, k⟩
/-- name = e, whatever e's rule -/
theorem set_core {i : Nat} {σ : L2.St} {H : Hp} {D : Ends} (q : tSs X.K (fun env => (f env).bind fun r => (Mir.fixO r.2 r.1).map fun q => .next (q.2.set i (some q.1))) D σ H) : tE X.K f σ H fun x H1 => D.nx (σ.set i (some x)) H1 := by
  obtain ⟨H0, M0, env, T, r', e, nb, sa, k⟩ := q
  obtain ⟨r1, e1, e⟩ := ob e
  obtain ⟨q, e2, rfl⟩ := om e
  refine ⟨H0, M0, env, T, r1, e1, sa, fun v H' sa' => ?_⟩
  exact k _ _ (SA.set' (SA.fixO (B := []) sa' e2) fun w => nb w i)
theorem ss_set {i : Nat} {tg : Expr} (he : PE X e (tE X.K f)) (hg : PG X tg (gName i)) (hs : swapsWithSole [tg] e pos.line X.env = pure false) (hw : swappedStores [tg] e X.env = pure none) (h1 : (assignEach [tg] X.env).map (·.2) = [assign tg X.env]) :
    PS X (.Assign [tg] e pos) (tSs X.K fun env => (f env).bind fun r => (Mir.fixO r.2 r.1).map fun q => .next (q.2.set i (some q.1))) :=
  PS_imp (ps_asg he hg hs hw h1) fun D σ H q => set_core q
/-- for -/
theorem ss_for {tg iter : Expr} {t : Tg} {fi : PEnv → Option (List PV × PEnv)} (hp : PassesOwn (model X.prog X.w) X.A X.env X.xe) (hc : X.calm = true) (hi : PI X tg iter (tIs X.K fi)) (hg : PG X tg (gT X.K t)) (hb : PSs X body (tSs X.K fs)) (hs : ∀ x, foldedSetIterable iter X.env x = pure x) :
    PS X (.For tg iter body [] pos) (tSs X.K fun env => (fi env).bind fun r => forL (fun p e => (bindT t p e).bind fun e1 => fs e1) r.1 r.2) := by
  refine PS_imp (ps_for hp hc hi hg hb hs) fun D σ H q => ?_
  obtain ⟨H0, M0, env, T, r', e, nb, sa, k⟩ := q
  obtain ⟨r1, e1, e⟩ := ob e
  refine ⟨H0, M0, env, T, r1, e1, sa, fun J H1 S nbS sa1 wk => ?_⟩
  have nb2 : noB (T ++ S) := nb.append nbS
  refine ⟨fun i m σ' H' => m = r1.1.length - i ∧ i ≤ r1.1.length ∧ ∃ env', SA X.K H0 M0 σ' env' (T ++ S) H' ∧ forL (fun p e => (bindT t p e).bind fun e1 => fs e1) (r1.1.drop i) env' = some r', ⟨r1.1.length, by simp, Nat.zero_le _, _, sa1, by simpa using e⟩, ?_⟩
  rintro i m σ2 H2 ⟨rfl, hi, env', sa3, ec⟩
  by_cases hlt : i < r1.1.length
  · have hd : r1.1.drop i = r1.1[i] :: r1.1.drop (i + 1) := List.drop_eq_getElem_cons hlt
    rw [hd] at ec
    obtain ⟨st, es, ec⟩ := ob ec
    obtain ⟨go, yl⟩ := (wk i _ _ _ _ (fun e he => List.mem_append_right _ he) sa3).1 r1.1[i] (List.getElem?_eq_getElem hlt)
    refine .inr ⟨go, fun σ' H' => i + 1 ≤ r1.1.length ∧ ∃ env', SA X.K H0 M0 σ' env' (T ++ S) H' ∧ forL (fun p e => (bindT t p e).bind fun e1 => fs e1) (r1.1.drop (i + 1)) env' = some r',
      fun σ' H' ⟨h1, h2⟩ => ⟨_, by omega, rfl, h1, h2⟩, fun x H' yy => ?_⟩
    have sa4 : SA X.K H0 M0 σ2 env' (T ++ S ++ [(x, .t (.sh r1.1[i]))]) H' := by simpa using yl x H' yy
    obtain ⟨b1, eb, es⟩ := ob es
    refine bind_ok eb sa4 (fun j _ v => nb2 v j) fun σ3 sa5 _ _ => ?_
    refine ⟨H0, M0, b1, _, st, es, nb2, sa5, ?_⟩
    cases st with
    | next e2 => exact fun σ' H' sa' => ⟨hlt, e2, sa', ec⟩
    | ret v => cases ec; exact k
    | brk e2 => cases ec; exact fun σ' H' sa' => k σ' H' sa'.left
  · have e0 : i = r1.1.length := by omega
    subst e0
    rw [List.drop_length] at ec
    simp only [forL, Option.some.injEq] at ec
    subst ec
    exact .inl ⟨(wk _ _ _ _ _ (fun e he => List.mem_append_right _ he) sa3).2 (Nat.le_refl _), k _ _ sa3.left⟩
/-- while -/
theorem ss_while (hp : PassesOwn (model X.prog X.w) X.A X.env X.xe) (hc : PT X c (tTs X.K ft)) (hb : PSs X body (tSs X.K fs)) (n : Nat) : PS X (.While c body [] pos) (tSs X.K fun env => whileL ft fs n env) := by
  refine PS_imp (ps_while hp hc hb) fun D σ H q => ?_
  obtain ⟨H0, M0, env, T, r', e, nb, sa, k⟩ := q
  refine ⟨fun m σ' H' => ∃ env', SA X.K H0 M0 σ' env' T H' ∧ whileL ft fs m env' = some r', ⟨n, env, sa, e⟩, ?_⟩
  rintro m σ2 H2 ⟨env', sa2, e2⟩
  cases m with
  | zero => simp [whileL] at e2
  | succ m =>
    obtain ⟨r1, e3, e2⟩ := ob e2
    refine ⟨H0, M0, env', T, r1, e3, sa2, fun H3 sa3 => ?_⟩
    obtain ⟨b1, env1⟩ := r1
    cases b1 with
    | true =>
      rw [if_pos rfl] at e2 ⊢
      obtain ⟨st, e4, e2⟩ := ob e2
      refine ⟨fun σ' H' => ∃ env', SA X.K H0 M0 σ' env' T H' ∧ whileL ft fs m env' = some r', fun σ' H' h => ⟨m, Nat.lt_succ_self _, h⟩, H0, M0, env1, T, st, e4, nb, sa3, ?_⟩
      cases st with
      | next e5 => exact fun σ' H' sa' => ⟨e5, sa', e2⟩
      | ret v => cases e2; exact k
      | brk e5 => cases e2; exact k
    | false =>
      rw [if_neg Bool.false_ne_true] at e2 ⊢
      cases e2
      exact k _ _ sa3
end
end Mir
/-! Mir9: statements that change a list. -/
namespace Mir
open PySem PySem.Spec PyProof.Rows L2
section
variable {X : Cx} {e ke : Expr} {pos p apos cpos : Pos} {x : Str} {i : Nat} {f g : PEnv → Option (Bw × PEnv)}
theorem own_at {K : PySem.W.Frag} {H0 M0 H : Hp} {σ : L2.St} {env : PEnv} {T : List (V × Bw)} {ps : List PV} (sa : SA K H0 M0 σ env T H) (e : env.getD i none = some (.own ps)) : ∃ a vs, σ[i]? = some (some (.ref a)) ∧ H a = some (.lst vs) := by
  obtain ⟨E, M, sx⟩ := sa
  obtain ⟨a, vs, h1, h2, _⟩ := SA.write sx e
  exact ⟨a, vs, h1, h2⟩
theorem ss_app (hN : X.N[i]? = some x) (hv : Vis X.env.scope x) (hd : (x == ("__debug__" : Str)) = false) (hcd : (x == ("__classdict__" : Str)) = false) (he : PE X e (tE X.K f)) (hs : starEach [e] X.env = (false, eval e X.env) :: starEach [] X.env) (hline : (apos.endLine == cpos.line) = true) :
    PS X (.Expr (.Call (.Attribute (.Name x p) "append" apos) [e] [] cpos) pos) (tSs X.K fun env => match env.getD i none with
    | some (.own _) => (f env).bind fun r => (Mir.fix r.2 r.1).bind fun q => match q.2.getD i none with
      | some (.own xs) => if xs.length < lim then some (.next (q.2.set i (some (.own (xs ++ [q.1]))))) else none
      | _ => none
    | _ => none) := by
  refine PS_imp (ps_expr (pe_bm PySem.F.plainAttrs_list PySem.F.slot_list_append PySem.F.type_list_append mt_append (pe_var hN hv hd hcd) (pa_cons he pa_nil hs) rfl (by rw [hs]; rfl) hline hs rfl) rfl) fun D σ H q => ?_
  obtain ⟨H0, M0, env, T, r', e, nb, sa, k⟩ := q
  dsimp only at e
  split at e
  · rename_i xs0 e0
    obtain ⟨a, vs0, h1, h2⟩ := own_at sa e0
    obtain ⟨r1, e1, e⟩ := ob e
    obtain ⟨q, e2, e⟩ := ob e
    refine ⟨.ref a, h1, .inl ⟨rfl, vs0, .of h2⟩, H0, M0, env, T, r1, e1, sa, fun v H' sa' => ?_⟩
    have sa2 := SA.fix (B := []) sa' e2
    split at e
    · rename_i xs e3
      split at e
      · rename_i hl
        cases e
        obtain ⟨E, M, sx⟩ := sa2
        obtain ⟨a', vs, g1, g2, g3, g4⟩ := SA.write sx e3
        have := h1.symm.trans g1
        cases this
        have rv : Rep X.K M v q.1 := sx.get (s := .sh q.1) (x := .t (.sh q.1)) (by simp) rfl
        refine ⟨a, vs, v, rfl, rfl, g2, by rw [g3.length]; have := lim_eq; omega, ?_⟩
        obtain ⟨E', sx'⟩ := g4 _ _ (g3.snoc rv)
        exact k _ _ (SA.left ⟨E', M, sx'⟩)
      · cases e
    · cases e
  · cases e
theorem ss_ext (hN : X.N[i]? = some x) (hv : Vis X.env.scope x) (hd : (x == ("__debug__" : Str)) = false) (hcd : (x == ("__classdict__" : Str)) = false) (he : PE X e (tE X.K f)) (hs : starEach [e] X.env = (false, eval e X.env) :: starEach [] X.env) (hline : (apos.endLine == cpos.line) = true) :
    PS X (.Expr (.Call (.Attribute (.Name x p) "extend" apos) [e] [] cpos) pos) (tSs X.K fun env => match env.getD i none with
    | some (.own _) => (f env).bind fun r => match slb r.2 r.1, r.2.getD i none with
      | some (.own ys), some (.own xs) => if xs.length + ys.length ≤ lim then some (.next (r.2.set i (some (.own (xs ++ ys))))) else none
      | _, _ => none
    | _ => none) := by
  refine PS_imp (ps_expr (pe_bm PySem.F.plainAttrs_list PySem.F.slot_list_extend PySem.F.type_list_extend mt_extend (pe_var hN hv hd hcd) (pa_cons he pa_nil hs) rfl (by rw [hs]; rfl) hline hs rfl) rfl) fun D σ H q => ?_
  obtain ⟨H0, M0, env, T, r', e, nb, sa, k⟩ := q
  dsimp only at e
  split at e
  · rename_i xs0 e0
    obtain ⟨a, vs0, h1, h2⟩ := own_at sa e0
    obtain ⟨r1, e1, e⟩ := ob e
    refine ⟨.ref a, h1, .inl ⟨rfl, vs0, .of h2⟩, H0, M0, env, T, r1, e1, sa, fun v H' sa' => ?_⟩
    split at e
    · rename_i ys xs e2 e3
      split at e
      · rename_i hl
        cases e
        obtain ⟨E, M, sx⟩ := sa'
        obtain ⟨a', vs, g1, g2, g3, g4⟩ := SA.write sx e3
        have := h1.symm.trans g1
        cases this
        obtain ⟨b, ws, rfl, k1, k2, k3, k4⟩ : SlOk X.K H0 M H' v (.own ys) := sx.get (by simp) e2
        refine ⟨a, b, vs, ws, rfl, rfl, g2, k3, by rw [g3.length, k4.length]; have := lim_eq; omega, ?_⟩
        obtain ⟨E', sx'⟩ := g4 _ _ (g3.append k4)
        exact k _ _ (SA.left ⟨E', M, sx'⟩)
      · cases e
    · cases e
  · cases e
theorem ss_stx (hN : X.N[i]? = some x) (hv : Vis X.env.scope x) (hd : (x == ("__debug__" : Str)) = false) (hcd : (x == ("__classdict__" : Str)) = false) (he : PE X e (tE X.K f)) (hk : PE X ke (tE X.K g))
    (hs : swapsWithSole [.Subscript (.Name x p) ke apos] e pos.line X.env = pure false) (hw : swappedStores [.Subscript (.Name x p) ke apos] e X.env = pure none)
    (ha : ∀ v, assign (.Subscript (.Name x p) ke apos) X.env v = (do
      let ov ← holding [v] (eval (.Name x p) X.env)
      let iv ← holding [v, ov] (eval ke X.env)
      standAt apos
      holding [v, ov, iv] (setItem ov iv v)
      release [v, ov, iv] [])) :
    PS X (.Assign [.Subscript (.Name x p) ke apos] e pos) (tSs X.K fun env => (f env).bind fun r => (Mir.fix r.2 r.1).bind fun q => match q.2.getD i none with
    | some (.own _) => (g q.2).bind fun kk => match pvb kk.2 kk.1, kk.2.getD i none with
      | some (.int n), some (.own xs) => (ixN xs.length n).map fun j => .next (kk.2.set i (some (.own (xs.set j q.1))))
      | _, _ => none
    | _ => none) := by
  refine PS_imp (ps_asg he (pg_sub (pe_var hN hv hd hcd) hk set_list ha) hs hw rfl) fun D σ H q => ?_
  obtain ⟨H0, M0, env, T, r', e, nb, sa, k⟩ := q
  obtain ⟨r1, e1, e⟩ := ob e
  obtain ⟨q, e2, e⟩ := ob e
  refine ⟨H0, M0, env, T, r1, e1, sa, fun v H1 sa1 => ?_⟩
  have sa2 := SA.fix (B := []) sa1 e2
  split at e
  · rename_i xs0 e0
    obtain ⟨a, vs0, h1, _⟩ := own_at sa2 e0
    obtain ⟨kk, e3, e⟩ := ob e
    refine ⟨.ref a, h1, H0, M0, q.2, _, kk, e3, sa2, fun w H2 sa3 => ?_⟩
    split at e
    · rename_i n xs e4 e5
      obtain ⟨j, e6, rfl⟩ := om e
      obtain ⟨E, M, sx⟩ := sa3
      obtain ⟨a', vs, g1, g2, g3, g4⟩ := SA.write sx e5
      have := h1.symm.trans g1
      cases this
      obtain ⟨s1, k1, k2⟩ := pvb_sl e4
      have hw := (sx.get (v := w) (by simp) k1).int k2
      have rv : Rep X.K M v q.1 := sx.get (s := .sh q.1) (x := .t (.sh q.1)) (by simp) rfl
      refine ⟨a, vs, n, j, rfl, hw, g2, by rw [g3.length]; exact e6, ?_⟩
      obtain ⟨E', sx'⟩ := g4 _ _ (g3.set j rv)
      exact k _ _ (SA.left (SA.left ⟨E', M, sx'⟩))
    · cases e
  · cases e
theorem ss_clear (hN : X.N[i]? = some x) (hv : Vis X.env.scope x) (hd : (x == ("__debug__" : Str)) = false) (hcd : (x == ("__classdict__" : Str)) = false) (hline : (apos.endLine == cpos.line) = true) :
    PS X (.Expr (.Call (.Attribute (.Name x p) "clear" apos) [] [] cpos) pos) (tSs X.K fun env => match env.getD i none with
    | some (.own _) => some (.next (env.set i (some (.own []))))
    | _ => none) := by
  refine PS_imp (ps_expr (pe_bm0 PySem.F.plainAttrs_list PySem.F.slot_list_clear PySem.F.type_list_clear mt_clear (pe_var hN hv hd hcd) rfl hline) rfl) fun D σ H q => ?_
  obtain ⟨H0, M0, env, T, r', e, nb, sa, k⟩ := q
  dsimp only at e
  split at e
  · rename_i xs e0
    cases e
    obtain ⟨E, M, sx⟩ := sa
    obtain ⟨a, vs, g1, g2, g3, g4⟩ := SA.write sx e0
    obtain ⟨E', sx'⟩ := g4 [] [] .nil
    exact ⟨.ref a, g1, .inl ⟨rfl, vs, .of g2⟩, a, vs, rfl, rfl, g2, k _ _ ⟨E', M, sx'⟩⟩
  · cases e
theorem ss_pop (hN : X.N[i]? = some x) (hv : Vis X.env.scope x) (hd : (x == ("__debug__" : Str)) = false) (hcd : (x == ("__classdict__" : Str)) = false) (hline : (apos.endLine == cpos.line) = true) :
    PS X (.Expr (.Call (.Attribute (.Name x p) "pop" apos) [] [] cpos) pos) (tSs X.K fun env => match env.getD i none with
    | some (.own xs) => if xs.length = 0 then none else some (.next (env.set i (some (.own xs.dropLast))))
    | _ => none) := by
  refine PS_imp (ps_expr (pe_bm0 PySem.F.plainAttrs_list PySem.F.slot_list_pop PySem.F.type_list_pop mt_pop (pe_var hN hv hd hcd) rfl hline) rfl) fun D σ H q => ?_
  obtain ⟨H0, M0, env, T, r', e, nb, sa, k⟩ := q
  dsimp only at e
  split at e
  · rename_i xs e0
    split at e
    · cases e
    · rename_i hne
      cases e
      obtain ⟨E, M, sx⟩ := sa
      obtain ⟨a, vs, g1, g2, g3, g4⟩ := SA.write sx e0
      obtain ⟨E', sx'⟩ := g4 _ _ g3.dropLast
      have hl : vs.length - 1 < vs.length := by rw [g3.length]; omega
      exact ⟨.ref a, g1, .inl ⟨rfl, vs, .of g2⟩, a, vs, _, rfl, rfl, g2, List.getElem?_eq_getElem hl, k _ _ ⟨E', M, sx'⟩⟩
  · cases e
end
end Mir
/-! Mir10: does a text say what the small language says (chk)? then it does it (sound). -/
namespace Mir
open PySem PySem.Spec PyProof.Rows L2

def nm (x y : Str) : Bool := decide (x = y)
def okName (x : Str) : Bool := !(x == ("__debug__" : Str)) && !(x == ("__classdict__" : Str)) && !nm x "__name__"
def visB (sc : Scope) (x : Str) : Bool := match sc.names.lookup x with
  | some .local => true | some .cell => true | some .free => true | _ => false
def locB (sc : Scope) (x : Str) : Bool := match sc.names.lookup x with
  | some .local => true | some .cell => true | _ => false
def glB (sc : Scope) (x : Str) : Bool := match sc.names.lookup x with
  | some .globalImplicit => true | _ => false
def slotB (N : List Str) (sc : Scope) (i : Nat) (x : Str) : Bool := decide (N[i]? = some x) && visB sc x && okName x
def pvB : PV → PV → Bool
  | .int i, .int j => decide (i = j)
  | .str i, .str j => decide (i = j)
  | _, _ => false
def notStar : Expr → Bool
  | .Starred _ _ => false | _ => true
def notSlice : Expr → Bool
  | .Slice _ _ _ _ => false | _ => true
def notSet : Expr → Bool
  | .Set _ _ _ => false | _ => true
def notComp : Expr → Bool
  | .ListComp _ _ _ _ => false | .SetComp _ _ _ _ => false | .DictComp _ _ _ _ _ => false | _ => true
def notCall0 : Expr → Bool
  | .Call _ [] _ _ => false | _ => true
def plainT : Expr → Bool
  | .UnaryOp .Not _ _ => false | .BoolOp _ _ _ => false | .IfExp _ _ _ _ => false | .Compare _ _ _ _ => false | _ => true
def tgB (sc : Scope) (N : List Str) : Tg → Expr → Bool
  | .name i, .Name x _ => decide (N[i]? = some x) && locB sc x
  | .tup is, .Tuple es _ _ => go is es
  | _, _ => false
where go : List Nat → List Expr → Bool
  | [], [] => true
  | i :: is, .Name x _ :: es => decide (N[i]? = some x) && locB sc x && go is es
  | _, _ => false
def isTup : Expr → Bool
  | .Tuple _ _ _ => true | _ => false
def isiTys : List String := ["tuple", "list", "bool", "int", "str"]

section
variable (P : List Fn) (G : List (Str × PV)) (N : List Str)
mutual
def chk (sc : Scope) : E → Expr → Bool
  | .var i, e => match e with | .Name x _ => slotB N sc i x | _ => false
  | .non, e => match e with | .Constant .none _ _ => true | _ => false
  | .bl b, e => match e with | .Constant (.bool c) _ _ => b == c | _ => false
  | .int i, e => match e with | .Constant (.int j) _ _ => decide (i = j) | _ => false
  | .str s, e => match e with | .Constant (.str t) _ _ => nm s t | _ => false
  | .glob x p, e => match e with | .Name y _ => nm x y && glB sc x && okName x && G.any fun g => nm g.1 x && pvB g.2 p | _ => false
  | .bin op a b, e => match e with | .BinOp x o y _ => decide (o = op) && chk sc a x && chk sc b y | _ => false
  | .neg a, e => match e with | .UnaryOp .USub x _ => chk sc a x | _ => false
  | .inv a, e => match e with | .UnaryOp .Invert x _ => chk sc a x | _ => false
  | .cmp op a b, e => match e with | .Compare x [o] [y] _ => decide (o = op) && notSet y && chk sc a x && chk sc b y | _ => false
  | .chain op op' a b c, e => match e with | .Compare x [o, o'] [y, z] _ => decide (o = op) && decide (o' = op') && notSet z && chk sc a x && chk sc b y && chk sc c z | _ => false
  | .and a b, e => match e with
    | .BoolOp .And [x, y] _ => chk sc a x && chk sc b y
    | .BoolOp .And (x :: y :: z :: r) pos => chk sc a x && chk sc b (.BoolOp .And (y :: z :: r) pos)
    | _ => false
  | .or a b, e => match e with
    | .BoolOp .Or [x, y] _ => chk sc a x && chk sc b y
    | .BoolOp .Or (x :: y :: z :: r) pos => chk sc a x && chk sc b (.BoolOp .Or (y :: z :: r) pos)
    | _ => false
  | .not a, e => match e with | .UnaryOp .Not x _ => chk sc a x | _ => false
  | .ife c a b, e => match e with | .IfExp t x y _ => chkT sc c t && chk sc a x && chk sc b y | _ => false
  | .ix a b, e => match e with | .Subscript x y _ => notSlice y && chk sc a x && chk sc b y | _ => false
  | .slc a lo hi, e => match e with | .Subscript x (.Slice l h none _) _ => chk sc a x && chkO sc lo l && chkO sc hi h | _ => false
  | .tup es, e => match e with | .Tuple xs _ _ => chkEs sc es xs | _ => false
  | .lst es, e => match e with | .List xs _ => chkEs sc es xs | _ => false
  | .call g es, e => match e with | .Call (.Name x _) (y :: ys) [] _ => (match P[g]? with | some f => nm f.name x | none => false) && glB sc x && okName x && chkEs sc es (y :: ys) | _ => false
  | .blt f es, e => match e with | .Call (.Name x _) (y :: ys) [] _ => nm (f : Str) x && (bTypes ++ bFuns).contains f && glB sc x && okName x && chkEs sc es (y :: ys) | _ => false
  | .isi a ty, e => match e with | .Call (.Name x _) [y, .Name t _] [] _ => nm x "isinstance" && nm (ty : Str) t && isiTys.contains ty && glB sc x && glB sc t && okName t && notStar y && chk sc a y | _ => false
  | .meth m a b, e => match e with | .Call (.Attribute x at_ apos) [y] [] cpos => nm (m : Str) at_ && (["join", "find", "split"] : List String).contains m && (apos.endLine == cpos.line) && notCall0 x && notStar y && chk sc a x && chk sc b y | _ => false
  | .comp elt t own it cd, e => match e with
    | .ListComp x [⟨tg, iter, ifs, 0⟩] scope _ => blkC N sc scope own && (tgSl t).all (fun i => (own.map (·.2)).contains i) && notSet iter && tgB scope N t tg && chkI sc it tg iter && chkC (relS scope sc) cd ifs && chk (relS scope sc) elt x
    | _ => false
def chkO (sc : Scope) : O → Option Expr → Bool
  | .no, e => match e with | none => true | _ => false
  | .some a, e => match e with | some x => chk sc a x | _ => false
def chkC (sc : Scope) : C → List Expr → Bool
  | .yes, e => match e with | [] => true | _ => false
  | .on t, e => match e with | [x] => chkT sc t x | _ => false
def chkEs (sc : Scope) : Es → List Expr → Bool
  | .nil, e => match e with | [] => true | _ => false
  | .cons a as, e => match e with | x :: xs => notStar x && chk sc a x && chkEs sc as xs | _ => false
def chkT (sc : Scope) : T → Expr → Bool
  | .val a, e => plainT e && chk sc a e
  | .cmp op a b, e => match e with | .Compare x [o] [y] _ => decide (o = op) && notSet y && chk sc a x && chk sc b y | _ => false
  | .chain op op' a b c, e => match e with | .Compare x [o, o'] [y, z] _ => decide (o = op) && decide (o' = op') && notSet z && chk sc a x && chk sc b y && chk sc c z | _ => false
  | .and a b, e => match e with
    | .BoolOp .And [x, y] _ => chkT sc a x && chkT sc b y
    | .BoolOp .And (x :: y :: z :: r) pos => chkT sc a x && chkT sc b (.BoolOp .And (y :: z :: r) pos)
    | _ => false
  | .or a b, e => match e with
    | .BoolOp .Or [x, y] _ => chkT sc a x && chkT sc b y
    | .BoolOp .Or (x :: y :: z :: r) pos => chkT sc a x && chkT sc b (.BoolOp .Or (y :: z :: r) pos)
    | _ => false
  | .not a, e => match e with | .UnaryOp .Not x _ => chkT sc a x | _ => false
def chkI (sc : Scope) : I → Expr → Expr → Bool
  | .val a, _, e => chk sc a e
  | .range1 a, _, e => match e with | .Call (.Name x _) [y] [] _ => nm x "range" && glB sc x && notStar y && chk sc a y | _ => false
  | .range2 a b, _, e => match e with | .Call (.Name x _) [y, z] [] _ => nm x "range" && glB sc x && notStar y && notStar z && chk sc a y && chk sc b z | _ => false
  | .enum a, tg, e => match e with | .Call (.Name x _) [y] [] _ => isTup tg && nm x "enumerate" && glB sc x && notStar y && chk sc a y | _ => false
  | .zip a b, tg, e => match e with | .Call (.Name x _) [y, z] [] _ => isTup tg && nm x "zip" && glB sc x && notStar y && notStar z && chk sc a y && chk sc b z | _ => false
  | .rev a, _, e => match e with | .Call (.Name x _) [y] [] _ => nm x "reversed" && glB sc x && notStar y && chk sc a y | _ => false
end
/-- y = [..] where the store comes within the comprehension -/
def swapB (sc : Scope) (y : Str) (py pos : Pos) (scope : Scope) : Bool :=
  (match sc.names.lookup y with | some .local => true | _ => false) && (py.line == pos.line) && !(scope.names.any fun (n, k) => n == y && (k == .local || k == .cell))
def cellB (sc : Scope) (y : Str) : Bool := match sc.names.lookup y with | some .cell => true | _ => false
mutual
def chkS (sc : Scope) : S → Stmt → Bool
  | .pass, s => match s with | .Pass _ => true | _ => false
  | .set i a, s => match s with
    | .Assign [.Name y py] v pos => decide (N[i]? = some y) && locB sc y && chk P G N sc a v && (notComp v || (match v with | .ListComp _ _ scope vpos => cellB sc y || swapB sc y py vpos scope | _ => false))
    | _ => false
  | .expr a, s => match s with | .Expr v _ => notComp v && chk P G N sc a v | _ => false
  | .ret a, s => match s with | .Return (some v) _ => chk P G N sc a v | _ => false
  | .retN, s => match s with | .Return none _ => true | _ => false
  | .ife c a b, s => match s with | .If t x y _ => chkT P G N sc c t && chkSs sc a x && chkSs sc b y | _ => false
  | .for t it b, s => match s with | .For tg iter x [] _ => notSet iter && tgB sc N t tg && chkI P G N sc it tg iter && chkSs sc b x | _ => false
  | .while c b, s => match s with | .While t x [] _ => chkT P G N sc c t && chkSs sc b x | _ => false
  | .app i a, s => match s with | .Expr (.Call (.Attribute (.Name y _) at_ apos) [x] [] cpos) _ => nm at_ "append" && slotB N sc i y && notStar x && (apos.endLine == cpos.line) && chk P G N sc a x | _ => false
  | .ext i a, s => match s with | .Expr (.Call (.Attribute (.Name y _) at_ apos) [x] [] cpos) _ => nm at_ "extend" && slotB N sc i y && notStar x && (apos.endLine == cpos.line) && chk P G N sc a x | _ => false
  | .stx i k a, s => match s with | .Assign [.Subscript (.Name y _) x _] v _ => slotB N sc i y && notComp v && notSlice x && chk P G N sc k x && chk P G N sc a v | _ => false
  | .clear i, s => match s with | .Expr (.Call (.Attribute (.Name y _) at_ apos) [] [] cpos) _ => nm at_ "clear" && slotB N sc i y && (apos.endLine == cpos.line) | _ => false
  | .pop i, s => match s with | .Expr (.Call (.Attribute (.Name y _) at_ apos) [] [] cpos) _ => nm at_ "pop" && slotB N sc i y && (apos.endLine == cpos.line) | _ => false
  | .brk, s => match s with | .Break _ => true | _ => false
def chkSs (sc : Scope) : Ss → List Stmt → Bool
  | .nil, s => match s with | [] => true | _ => false
  | .cons a as, s => match s with | x :: xs => chkS sc a x && chkSs sc as xs | _ => false
end
end

/-! ### facts of the looks -/
theorem nm_eq {x y : Str} (h : nm x y = true) : x = y := of_decide_eq_true h
theorem okName_iff {x : Str} (h : okName x = true) : (x == ("__debug__" : Str)) = false ∧ (x == ("__classdict__" : Str)) = false ∧ x ≠ "__name__" := by
  unfold okName at h
  simp only [Bool.and_eq_true, Bool.not_eq_true'] at h
  exact ⟨h.1.1, h.1.2, of_decide_eq_false h.2⟩
theorem visB_iff {sc : Scope} {x : Str} (h : visB sc x = true) : Vis sc x := by
  unfold visB at h
  split at h
  · exact .inl (by assumption)
  · exact .inr (.inl (by assumption))
  · exact .inr (.inr (by assumption))
  · cases h
theorem locB_iff {sc : Scope} {x : Str} (h : locB sc x = true) : Loc sc x := by
  unfold locB at h
  split at h
  · exact .inl (by assumption)
  · exact .inr (by assumption)
  · cases h
theorem glB_iff {sc : Scope} {x : Str} (h : glB sc x = true) : sc.names.lookup x = some .globalImplicit := by
  unfold glB at h
  split at h
  · assumption
  · cases h
theorem star_eq {e : Expr} {es : List Expr} {env : Env} (h : notStar e = true) : starEach (e :: es) env = (false, eval e env) :: starEach es env := by
  cases e <;> first | rfl | cases h
theorem marks_eq {op : CmpOp} {e : Expr} (h : notSet e = true) : behindInMarks op e = false := by
  cases e <;> first | rfl | cases h
theorem last_eq {op op' : CmpOp} {e e' : Expr} (h : notSet e' = true) : lastMarks [op, op'] [e, e'] = false := by
  have : lastMarks [op, op'] [e, e'] = behindInMarks op' e' := by with_unfolding_all rfl
  rw [this]; exact marks_eq h
theorem slice_eq {e : Expr} (h : notSlice e = true) : PlainIx e := fun o i => by
  cases e <;> first | rfl | cases h
theorem set_eq {e : Expr} {env : Env} (h : notSet e = true) : ∀ x, foldedSetIterable e env x = pure x := fun x => by
  cases e <;> first | rfl | cases h
theorem plain_eq {e : Expr} {env : Env} (h : plainT e = true) : ∀ whole, isTrue e env whole = (do let v ← whole; standAt e.pos; holding [v] (truthy v)) := fun whole => by
  cases e with
  | UnaryOp op _ _ => cases op <;> first | rfl | cases h
  | _ => first | rfl | cases h
theorem base_eq {e : Expr} {m : Str} {env : Env} {whole : Sem Value} (h : notCall0 e = true) : attributeBase e m env whole = whole := by
  cases e with
  | Call f as ks p =>
    cases as with
    | nil => cases h
    | cons a as => cases f <;> rfl
  | _ => rfl
theorem swap_eq {e : Expr} {o : Option Expr} {n : Nat} {env : Env} (h : notComp e = true) : swapsWith e o n env = pure false := by
  cases e <;> first | rfl | cases h
theorem stores_eq {x : Str} {p : Pos} {e : Expr} {env : Env} : swappedStores [.Name x p] e env = pure none := by
  cases e <;> rfl
theorem stores_eq2 {a b : Expr} {p : Pos} {e : Expr} {env : Env} : swappedStores [.Subscript a b p] e env = pure none := by
  cases e <;> rfl
theorem boot_ty {ty : String} (h : isiTys.contains ty = true) : bootBuiltins (ty : Str) = some (.type ty) := by
  simp only [isiTys, List.contains_cons, List.contains_nil, Bool.or_eq_true, beq_iff_eq, Bool.or_false] at h
  rcases h with rfl | rfl | rfl | rfl | rfl <;> decide +kernel
theorem any_len {es : List Expr} {env : Env} {pos : Pos} (h : ∀ e ∈ es, notStar e = true) : (backTo pos (starEach es env)).any (·.1) = false := by
  induction es with
  | nil => rfl
  | cons e es ih =>
    rw [star_eq (h e List.mem_cons_self)]
    show (false || (backTo pos (starEach es env)).any (·.1)) = false
    rw [ih fun e he => h e (List.mem_cons_of_mem _ he)]
    rfl

/-! ### where one stands -/
structure CtxE (X : Cx) (sc : Scope) (k : Nat) (P : List Fn) (G : List (Str × PV)) (F : Fns) : Prop where
  sc : X.env.scope = sc
  nd : X.N.Nodup
  calm : X.calm = true
  room : Room k X.A
  fn : ∀ g f, P[g]? = some f → FnAt X k f.name f.ps (F g)
  bl : ∀ n : String, (bTypes ++ bFuns ++ ["bool", "isinstance", "range", "enumerate", "zip", "reversed"]).contains n = true → X.mg (n : Str) = none
  gl : ∀ g ∈ G, ∃ v u, X.mg g.1 = some u ∧ RelV v u ∧ ∀ M, Rep X.K M v g.2
/-- targets may be stored -/
structure CtxT (X : Cx) (sc0 : Scope) : Prop where
  loc : ∀ x, Loc sc0 x → Loc X.env.scope x ∧ (X.fn x = true ∨ X.env.scope.names.lookup x = some .local)
theorem CtxE.blk {X : Cx} {sc : Scope} {k : Nat} {P : List Fn} {G : List (Str × PV)} {F : Fns} (C : CtxE X sc k P G F) (s : Shared) (H : Hp) (scope : Scope) (c : Addr) (cl : List (Str × Addr)) (fp : List Addr) :
    CtxE (X.blk s H scope (compEnvC scope cl c X.env) fp) (relS scope sc) k P G F :=
  ⟨by rw [← C.sc]; rfl, C.nd, C.calm, C.room, fun g f h => ⟨(C.fn g f h).ex⟩, C.bl, C.gl⟩
theorem CtxT.blk {X : Cx} (s : Shared) (H : Hp) (scope : Scope) (c : Addr) (cl : List (Str × Addr)) (fp : List Addr) : CtxT (X.blk s H scope (compEnvC scope cl c X.env) fp) scope := by
  refine ⟨fun x h => ?_⟩
  have e : (compEnvC scope cl c X.env).scope = relS scope X.env.scope := rfl
  rcases h with h | h
  · have q : (relS scope X.env.scope).names.lookup x = some .local := lookup_relS_keep (by simp) h
    exact ⟨.inl (by show (compEnvC scope cl c X.env).scope.names.lookup x = _; rw [e]; exact q), .inr (by show (compEnvC scope cl c X.env).scope.names.lookup x = _; rw [e]; exact q)⟩
  · have q : (relS scope X.env.scope).names.lookup x = some .cell := lookup_relS_keep (by simp) h
    exact ⟨.inr (by show (compEnvC scope cl c X.env).scope.names.lookup x = _; rw [e]; exact q), .inl (by show (scope.names.lookup x == some .cell) = true; rw [h]; rfl)⟩
theorem names_pg {X : Cx} {sc0 : Scope} (hN : X.N.Nodup) (C : CtxT X sc0) : ∀ {is : List Nat} {es : List Expr}, tgB.go sc0 X.N is es = true → PGs X es (gNames is) ∧ (assignEach es X.env).length = is.length ∧ (assignEach es X.env).findIdx? (·.1) = none
  | [], [], _ => ⟨pgs_nil, rfl, rfl⟩
  | [], _ :: _, h => by simp [tgB.go] at h
  | i :: is, [], h => by simp [tgB.go] at h
  | i :: is, e :: es, h => by
    cases e <;> simp only [tgB.go, Bool.and_eq_true, decide_eq_true_eq, Bool.false_eq_true] at h
    obtain ⟨⟨h1, h2⟩, h3⟩ := h
    obtain ⟨a, b, c⟩ := names_pg hN C h3
    obtain ⟨l, f⟩ := C.loc _ (locB_iff h2)
    refine ⟨pgs_cons (pg_name hN h1 l f) a rfl, by simp [assignEach, b], ?_⟩
    simp [assignEach, List.findIdx?_cons, c]
theorem tg_pg {X : Cx} {sc0 : Scope} (hc : X.calm = true) (hN : X.N.Nodup) (C : CtxT X sc0) {t : Tg} {e : Expr} (h : tgB sc0 X.N t e = true) : PG X e (gT X.K t) := by
  cases t with
  | name i =>
    cases e <;> simp only [tgB, Bool.and_eq_true, decide_eq_true_eq, Bool.false_eq_true] at h
    obtain ⟨l, f⟩ := C.loc _ (locB_iff h.2)
    exact pg_name hN h.1 l f
  | tup is =>
    cases e <;> simp only [tgB, Bool.false_eq_true] at h
    obtain ⟨a, b, c⟩ := names_pg hN C h
    exact pg_tup hc a b c
theorem Room.hu64 {k : Nat} {A : Around} (r : Room k A) : A.units + 64 < cLine := r.units

/-- a test at the end of and, or -/
theorem pw_last_and {X : Cx} {a : Expr} {t : TT} {pos : Pos} (h : PT X a t) : PW X (.BoolOp .And [a] pos) t := pw_and1 h
theorem pw_last_or {X : Cx} {a : Expr} {t : TT} {pos : Pos} (h : PT X a t) : PW X (.BoolOp .Or [a] pos) t := pw_or1 h
theorem pw_of_and {X : Cx} {es : List Expr} {t : TT} {pos : Pos} {op : BoolOp} (h : PT X (.BoolOp op es pos) t) : PW X (.BoolOp op es pos) t := ⟨fun w pins s σ H Q I q => h.run pins s σ H Q I q⟩
theorem pw_of_or {X : Cx} {es : List Expr} {t : TT} {pos : Pos} {op : BoolOp} (h : PT X (.BoolOp op es pos) t) : PW X (.BoolOp op es pos) t := pw_of_and h
section
variable {P : List Fn} {G : List (Str × PV)} {F : Fns} {k : Nat}
theorem es_star {N : List Str} {sc : Scope} : ∀ {as : Es} {es : List Expr}, chkEs P G N sc as es = true → ∀ e ∈ es, notStar e = true
  | .nil, [], _ => by simp
  | .nil, _ :: _, h => by simp [chkEs] at h
  | .cons _ _, [], h => by simp [chkEs] at h
  | .cons a as, x :: xs, h => by
    simp only [chkEs, Bool.and_eq_true] at h
    intro e he
    rcases List.mem_cons.mp he with rfl | he
    · exact h.1.1
    · exact es_star h.2 e he
mutual
theorem sE : ∀ (a : E) (e : Expr) (X : Cx) (sc : Scope), CtxE X sc k P G F → chk P G X.N sc a e = true → PE X e (tE X.K (ev F a))
  | .var i, e, X, sc, C, h => by
    cases e <;> simp only [chk, Bool.false_eq_true] at h
    simp only [slotB, Bool.and_eq_true, decide_eq_true_eq] at h
    obtain ⟨o1, o2, _⟩ := okName_iff h.2
    exact se_var h.1.1 (by rw [C.sc]; exact visB_iff h.1.2) o1 o2
  | .non, e, X, sc, C, h => by
    unfold chk at h
    split at h
    · exact se_const pe_non fun M => .non
    · cases h
  | .bl b, e, X, sc, C, h => by
    unfold chk at h
    split at h
    · rename_i c _ _
      have e1 : b = c := by simpa using h
      subst e1
      exact se_const pe_bl fun M => .bl b
    · cases h
  | .int i, e, X, sc, C, h => by
    unfold chk at h
    split at h
    · have e1 := of_decide_eq_true h
      subst e1
      exact se_const pe_int fun M => .int i
    · cases h
  | .str z, e, X, sc, C, h => by
    unfold chk at h
    split at h
    · have e1 := nm_eq h
      subst e1
      exact se_const pe_str fun M => .str z
    · cases h
  | .glob x p, e, X, sc, C, h => by
    unfold chk at h
    split at h
    · simp only [Bool.and_eq_true, List.any_eq_true] at h
      obtain ⟨⟨⟨h1, h2⟩, h3⟩, g, hg, h4, h5⟩ := h
      have e1 := nm_eq h1
      subst e1
      have e2 := nm_eq h4
      obtain ⟨v, u, m1, m2, m3⟩ := C.gl g hg
      have e3 : g.2 = p := by
        generalize g.2 = q at h5
        cases q <;> cases p <;> simp only [pvB, decide_eq_true_eq, Bool.false_eq_true] at h5 <;> rw [h5]
      rw [e2] at m1
      rw [e3] at m3
      exact se_const (pe_glob (by show X.env.scope.names.lookup x = _; rw [C.sc]; exact glB_iff h2) m1 m2 (okName_iff h3).1) m3
    · cases h
  | .bin op a b, e, X, sc, C, h => by
    unfold chk at h
    split at h
    · simp only [Bool.and_eq_true, decide_eq_true_eq] at h
      obtain ⟨⟨rfl, h1⟩, h2⟩ := h
      exact se_bin (sE a _ X sc C h1) (sE b _ X sc C h2)
    · cases h
  | .neg a, e, X, sc, C, h => by
    unfold chk at h
    split at h
    · exact se_neg (sE a _ X sc C h)
    · cases h
  | .inv a, e, X, sc, C, h => by
    unfold chk at h
    split at h
    · exact se_inv (sE a _ X sc C h)
    · cases h
  | .cmp op a b, e, X, sc, C, h => by
    unfold chk at h
    split at h
    · simp only [Bool.and_eq_true, decide_eq_true_eq] at h
      obtain ⟨⟨⟨rfl, h0⟩, h1⟩, h2⟩ := h
      exact se_cmp C.room.units (sE a _ X sc C h1) (sE b _ X sc C h2) (marks_eq h0)
    · cases h
  | .chain op op' a b c, e, X, sc, C, h => by
    unfold chk at h
    split at h
    · simp only [Bool.and_eq_true, decide_eq_true_eq] at h
      obtain ⟨⟨⟨⟨⟨rfl, rfl⟩, h0⟩, h1⟩, h2⟩, h3⟩ := h
      exact se_chain C.room.units (sE a _ X sc C h1) (sE b _ X sc C h2) (sE c _ X sc C h3) (last_eq h0)
    · cases h
  | .and a b, e, X, sc, C, h => by
    unfold chk at h
    split at h
    · simp only [Bool.and_eq_true] at h
      exact se_and (sE a _ X sc C h.1) (pe_one (sE b _ X sc C h.2))
    · simp only [Bool.and_eq_true] at h
      exact se_and (sE a _ X sc C h.1) (sE b _ X sc C h.2)
    · cases h
  | .or a b, e, X, sc, C, h => by
    unfold chk at h
    split at h
    · simp only [Bool.and_eq_true] at h
      exact se_or (sE a _ X sc C h.1) (pe_one (sE b _ X sc C h.2))
    · simp only [Bool.and_eq_true] at h
      exact se_or (sE a _ X sc C h.1) (sE b _ X sc C h.2)
    · cases h
  | .not a, e, X, sc, C, h => by
    unfold chk at h
    split at h
    · exact se_not (sE a _ X sc C h)
    · cases h
  | .ife c a b, e, X, sc, C, h => by
    unfold chk at h
    split at h
    · simp only [Bool.and_eq_true] at h
      exact se_ife (sT c _ X sc C h.1.1) (sE a _ X sc C h.1.2) (sE b _ X sc C h.2)
    · cases h
  | .ix a b, e, X, sc, C, h => by
    unfold chk at h
    split at h
    · simp only [Bool.and_eq_true] at h
      exact se_ix (sE a _ X sc C h.1.2) (sE b _ X sc C h.2) (slice_eq h.1.1)
    · cases h
  | .slc a lo hi, e, X, sc, C, h => by
    unfold chk at h
    split at h
    · simp only [Bool.and_eq_true] at h
      exact se_slc (sE a _ X sc C h.1.1) (sO lo _ X sc C h.1.2) (sO hi _ X sc C h.2)
    · cases h
  | .tup es, e, X, sc, C, h => by
    unfold chk at h
    split at h
    · exact se_tup (sEs es _ X sc C h)
    · cases h
  | .lst es, e, X, sc, C, h => by
    unfold chk at h
    split at h
    · exact se_lst (sEs es _ X sc C h)
    · cases h
  | .call g es, e, X, sc, C, h => by
    unfold chk at h
    split at h
    · simp only [Bool.and_eq_true] at h
      obtain ⟨⟨⟨h1, h2⟩, h3⟩, h4⟩ := h
      split at h1
      · rename_i f hf
        have e1 := nm_eq h1
        have A := C.fn g f hf
        rw [e1] at A
        have st := es_star h4
        exact se_call A C.room (by show X.env.scope.names.lookup _ = _; rw [C.sc]; exact glB_iff h2) (sEs es _ X sc C h4) (okName_iff h3).1 (star_eq (st _ List.mem_cons_self)) (any_len fun e he => st e (List.mem_cons_of_mem _ he))
      · cases h1
    · cases h
  | .blt f es, e, X, sc, C, h => by
    unfold chk at h
    split at h
    · simp only [Bool.and_eq_true] at h
      obtain ⟨⟨⟨⟨h1, h2⟩, h3⟩, h4⟩, h5⟩ := h
      have e1 := nm_eq h1
      subst e1
      have st := es_star h5
      obtain ⟨o1, o2, o3⟩ := okName_iff h4
      exact se_blt C.calm (by show X.env.scope.names.lookup _ = _; rw [C.sc]; exact glB_iff h3) (C.bl f (by rw [List.contains_iff_mem] at h2 ⊢; exact List.mem_append_left _ h2)) h2 (sEs es _ X sc C h5) o3 o1 (star_eq (st _ List.mem_cons_self)) (any_len fun e he => st e (List.mem_cons_of_mem _ he))
    · cases h
  | .isi a ty, e, X, sc, C, h => by
    unfold chk at h
    split at h
    · simp only [Bool.and_eq_true] at h
      obtain ⟨⟨⟨⟨⟨⟨⟨h1, h2⟩, h3⟩, h4⟩, h5⟩, h6⟩, h7⟩, h8⟩ := h
      have e1 := nm_eq h1
      have e2 := nm_eq h2
      subst e1 e2
      obtain ⟨o1, o2, o3⟩ := okName_iff h6
      have ht : X.mg (ty : Str) = none := by
        refine C.bl ty ?_
        simp only [isiTys, List.contains_cons, List.contains_nil, Bool.or_eq_true, beq_iff_eq, Bool.or_false] at h3
        rcases h3 with rfl | rfl | rfl | rfl | rfl <;> decide
      exact se_isi (p3 := ⟨0, 0, 0, 0⟩) (by show X.env.scope.names.lookup _ = _; rw [C.sc]; exact glB_iff h4) (C.bl "isinstance" (by decide)) (by show X.env.scope.names.lookup _ = _; rw [C.sc]; exact glB_iff h5) ht (boot_ty h3) (sE a _ X sc C h8) o3 o1 (star_eq h7)
    · cases h
  | .meth m a b, e, X, sc, C, h => by
    unfold chk at h
    split at h
    · simp only [Bool.and_eq_true] at h
      obtain ⟨⟨⟨⟨⟨⟨h1, h2⟩, h3⟩, h4⟩, h5⟩, h6⟩, h7⟩ := h
      have e1 := nm_eq h1
      subst e1
      refine se_meth ?_ (sE a _ X sc C h6) (sE b _ X sc C h7) (star_eq h5) (base_eq h4) h3
      simp only [List.contains_cons, List.contains_nil, Bool.or_eq_true, beq_iff_eq, Bool.or_false] at h2
      exact h2
    · cases h
  | .comp elt t own it cd, e, X, sc, C, h => by
    unfold chk at h
    split at h
    · rename_i x tg iter ifs scope pos
      simp only [Bool.and_eq_true] at h
      obtain ⟨⟨⟨⟨⟨⟨h1, h2⟩, h3⟩, h4⟩, h5⟩, h6⟩, h7⟩ := h
      refine se_comp (fun i hi => ?_) C.calm C.nd (sI it tg iter X sc C h5) (by rw [C.sc]; exact blkOk_by h1) (fun s H c cl fp => ?_) (fun s H c cl fp => ?_) (fun s H c cl fp => ?_) (set_eq h3)
      · have := List.all_eq_true.mp h2 i hi
        rwa [List.contains_iff_mem] at this
      · exact tg_pg (X := X.blk s H scope (compEnvC scope cl c X.env) fp) C.calm C.nd (CtxT.blk s H scope c cl fp) h4
      · exact sC cd ifs (X.blk s H scope (compEnvC scope cl c X.env) fp) (relS scope sc) (C.blk s H scope c cl fp) h6
      · exact sE elt x (X.blk s H scope (compEnvC scope cl c X.env) fp) (relS scope sc) (C.blk s H scope c cl fp) h7
    · cases h
theorem sO : ∀ (a : O) (e : Option Expr) (X : Cx) (sc : Scope), CtxE X sc k P G F → chkO P G X.N sc a e = true → PO X e (tOs X.K (evO F a))
  | .no, e, X, sc, C, h => by
    cases e <;> simp only [chkO, Bool.false_eq_true] at h
    exact so_no
  | .some a, e, X, sc, C, h => by
    cases e <;> simp only [chkO, Bool.false_eq_true] at h
    exact so_some (sE a _ X sc C h)
theorem sC : ∀ (a : C) (e : List Expr) (X : Cx) (sc : Scope), CtxE X sc k P G F → chkC P G X.N sc a e = true → PTs X e (tTs X.K (evC F a))
  | .yes, e, X, sc, C, h => by
    cases e <;> simp only [chkC, Bool.false_eq_true] at h
    exact pts_yes
  | .on t, e, X, sc, C, h => by
    unfold chkC at h
    split at h
    · exact pts_one (sT t _ X sc C h)
    · cases h
theorem sEs : ∀ (a : Es) (e : List Expr) (X : Cx) (sc : Scope), CtxE X sc k P G F → chkEs P G X.N sc a e = true → PA X e (tAs X.K (evs F a))
  | .nil, e, X, sc, C, h => by
    cases e <;> simp only [chkEs, Bool.false_eq_true] at h
    exact sa_nil
  | .cons a as, e, X, sc, C, h => by
    cases e <;> simp only [chkEs, Bool.false_eq_true, Bool.and_eq_true] at h
    exact sa_cons (sE a _ X sc C h.1.2) (sEs as _ X sc C h.2) (star_eq h.1.1)
theorem sT : ∀ (a : T) (e : Expr) (X : Cx) (sc : Scope), CtxE X sc k P G F → chkT P G X.N sc a e = true → PT X e (tTs X.K (evT F a))
  | .val a, e, X, sc, C, h => by
    simp only [chkT, Bool.and_eq_true] at h
    exact st_val (sE a _ X sc C h.2) (plain_eq h.1)
  | .cmp op a b, e, X, sc, C, h => by
    unfold chkT at h
    split at h
    · simp only [Bool.and_eq_true, decide_eq_true_eq] at h
      obtain ⟨⟨⟨rfl, h0⟩, h1⟩, h2⟩ := h
      exact st_cmp C.room.units (sE a _ X sc C h1) (sE b _ X sc C h2) (marks_eq h0)
    · cases h
  | .chain op op' a b c, e, X, sc, C, h => by
    unfold chkT at h
    split at h
    · simp only [Bool.and_eq_true, decide_eq_true_eq] at h
      obtain ⟨⟨⟨⟨⟨rfl, rfl⟩, h0⟩, h1⟩, h2⟩, h3⟩ := h
      exact st_chain C.room.units (sE a _ X sc C h1) (sE b _ X sc C h2) (sE c _ X sc C h3) (last_eq h0)
    · cases h
  | .and a b, e, X, sc, C, h => by
    unfold chkT at h
    split at h
    · simp only [Bool.and_eq_true] at h
      exact (st_and (sT a _ X sc C h.1) (pw_last_and (sT b _ X sc C h.2))).pt
    · simp only [Bool.and_eq_true] at h
      exact (st_and (sT a _ X sc C h.1) (pw_of_and (sT b _ X sc C h.2))).pt
    · cases h
  | .or a b, e, X, sc, C, h => by
    unfold chkT at h
    split at h
    · simp only [Bool.and_eq_true] at h
      exact (st_or (sT a _ X sc C h.1) (pw_last_or (sT b _ X sc C h.2))).pt
    · simp only [Bool.and_eq_true] at h
      exact (st_or (sT a _ X sc C h.1) (pw_of_or (sT b _ X sc C h.2))).pt
    · cases h
  | .not a, e, X, sc, C, h => by
    unfold chkT at h
    split at h
    · exact st_not (sT a _ X sc C h)
    · cases h
theorem sI : ∀ (a : I) (tg e : Expr) (X : Cx) (sc : Scope), CtxE X sc k P G F → chkI P G X.N sc a tg e = true → PI X tg e (tIs X.K (evI F a))
  | .val a, tg, e, X, sc, C, h => by
    simp only [chkI] at h
    exact si_val (sE a _ X sc C h)
  | .range1 a, tg, e, X, sc, C, h => by
    unfold chkI at h
    split at h
    · simp only [Bool.and_eq_true] at h
      obtain ⟨⟨⟨h1, h2⟩, h3⟩, h4⟩ := h
      have e1 := nm_eq h1
      subst e1
      exact si_range1 (by show X.env.scope.names.lookup _ = _; rw [C.sc]; exact glB_iff h2) (C.bl "range" (by decide)) (sE a _ X sc C h4) (star_eq h3)
    · cases h
  | .range2 a b, tg, e, X, sc, C, h => by
    unfold chkI at h
    split at h
    · simp only [Bool.and_eq_true] at h
      obtain ⟨⟨⟨⟨⟨h1, h2⟩, h3⟩, h4⟩, h5⟩, h6⟩ := h
      have e1 := nm_eq h1
      subst e1
      exact si_range2 (by show X.env.scope.names.lookup _ = _; rw [C.sc]; exact glB_iff h2) (C.bl "range" (by decide)) (sE a _ X sc C h5) (sE b _ X sc C h6) (by rw [star_eq h3, star_eq h4]; rfl) (star_eq h4)
    · cases h
  | .enum a, tg, e, X, sc, C, h => by
    unfold chkI at h
    split at h
    · simp only [Bool.and_eq_true] at h
      obtain ⟨⟨⟨⟨h0, h1⟩, h2⟩, h3⟩, h4⟩ := h
      have e1 := nm_eq h1
      subst e1
      cases tg <;> simp only [isTup, Bool.false_eq_true] at h0
      exact si_enum (by show X.env.scope.names.lookup _ = _; rw [C.sc]; exact glB_iff h2) (C.bl "enumerate" (by decide)) (sE a _ X sc C h4) (star_eq h3)
    · cases h
  | .zip a b, tg, e, X, sc, C, h => by
    unfold chkI at h
    split at h
    · simp only [Bool.and_eq_true] at h
      obtain ⟨⟨⟨⟨⟨⟨h0, h1⟩, h2⟩, h3⟩, h4⟩, h5⟩, h6⟩ := h
      have e1 := nm_eq h1
      subst e1
      cases tg <;> simp only [isTup, Bool.false_eq_true] at h0
      exact si_zip (by show X.env.scope.names.lookup _ = _; rw [C.sc]; exact glB_iff h2) (C.bl "zip" (by decide)) (sE a _ X sc C h5) (sE b _ X sc C h6) (star_eq h3) (star_eq h4)
    · cases h
  | .rev a, tg, e, X, sc, C, h => by
    unfold chkI at h
    split at h
    · simp only [Bool.and_eq_true] at h
      obtain ⟨⟨⟨h1, h2⟩, h3⟩, h4⟩ := h
      have e1 := nm_eq h1
      subst e1
      exact si_rev (by show X.env.scope.names.lookup _ = _; rw [C.sc]; exact glB_iff h2) (C.bl "reversed" (by decide)) (sE a _ X sc C h4) (star_eq h3)
    · cases h
end
end
end Mir
/-! Mir11: statements, defs, the law. -/
namespace Mir
open PySem PySem.Spec PyProof.Rows L2
section
variable {P : List Fn} {G : List (Str × PV)} {F : Fns} {k : Nat}
structure CtxS (X : Cx) (sc : Scope) (k : Nat) (P : List Fn) (G : List (Str × PV)) (F : Fns) : Prop where
  e : CtxE X sc k P G F
  t : CtxT X sc
  p : PassesOwn (model X.prog X.w) X.A X.env X.xe
  kd : sc.kind = .function
theorem slot_iff {N : List Str} {sc : Scope} {i : Nat} {x : Str} (h : slotB N sc i x = true) : N[i]? = some x ∧ Vis sc x ∧ (x == ("__debug__" : Str)) = false ∧ (x == ("__classdict__" : Str)) = false := by
  simp only [slotB, Bool.and_eq_true, decide_eq_true_eq] at h
  obtain ⟨o1, o2, _⟩ := okName_iff h.2
  exact ⟨h.1.1, visB_iff h.1.2, o1, o2⟩
theorem sub_assign {X : Cx} {x : Str} {p apos : Pos} {ke : Expr} (h : notSlice ke = true) : ∀ v, assign (.Subscript (.Name x p) ke apos) X.env v = (do
      let ov ← holding [v] (eval (.Name x p) X.env)
      let iv ← holding [v, ov] (eval ke X.env)
      standAt apos
      holding [v, ov, iv] (setItem ov iv v)
      release [v, ov, iv] []) := fun v => by
  cases ke <;> first | rfl | cases h
theorem set_comp {X : Cx} {sc : Scope} {i : Nat} {y : Str} {py pos vpos : Pos} {a : E} {elt : Expr} {gs : List Comprehension} {scope : Scope} (C : CtxS X sc k P G F) (hi : X.N[i]? = some y) (hl : locB sc y = true) (h : chk P G X.N sc a (.ListComp elt gs scope vpos) = true)
    (hw : (cellB sc y || swapB sc y py vpos scope) = true) : PS X (.Assign [.Name y py] (.ListComp elt gs scope vpos) pos) (tSs X.K (ex F (.set i a))) := by
  obtain ⟨l, f⟩ := C.t.loc _ (locB_iff hl)
  by_cases hc : cellB sc y = true
  · refine ss_set (sE a _ X sc C.e h) (pg_name C.e.nd hi l f) ?_ stores_eq rfl
    have e1 : X.env.kindOf y = some .cell := by
      show X.env.scope.names.lookup y = _
      rw [C.e.sc]
      unfold cellB at hc
      split at hc
      · assumption
      · cases hc
    unfold swapsWithSole swapsWith
    simp only [e1]
    have e2 : (some NameKind.cell == some NameKind.local) = false := rfl
    rw [e2, Bool.and_false, Bool.false_and, Bool.false_and]
  · have hs : swapB sc y py vpos scope = true := by
      rcases Bool.or_eq_true_iff.mp hw with z | z
      · exact absurd z hc
      · exact z
    simp only [swapB, Bool.and_eq_true, Bool.not_eq_true'] at hs
    obtain ⟨⟨s1, s2⟩, s3⟩ := hs
    have hyl : X.env.scope.names.lookup y = some .local := by
      rw [C.e.sc]
      split at s1
      · assumption
      · cases s1
    cases a <;> simp only [chk, Bool.false_eq_true] at h
    rename_i elt' t own it cd
    split at h
    · rename_i x tg iter ifs scope' pos' heq
      cases heq
      simp only [Bool.and_eq_true] at h
      obtain ⟨⟨⟨⟨⟨⟨h1, h2⟩, h3⟩, h4⟩, h5⟩, h6⟩, h7⟩ := h
      have hown : ∀ i ∈ tgSl t, i ∈ own.map (·.2) := fun i hi => by
        have := List.all_eq_true.mp h2 i hi
        rwa [List.contains_iff_mem] at this
      refine PS_imp (ps_setLc (i := i) (te := tE X.K (ev F elt')) (tt := tTs X.K (evC F cd)) (g := gT X.K t) C.e.calm C.e.nd hi hyl (sw_true (by rw [C.e.sc]; exact C.kd) hyl s2 s3) (sI it tg iter X sc C.e h5) (by rw [C.e.sc]; exact blkOk_by h1)
        (fun s H c cl fp => tg_pg (X := X.blk s H scope (compEnvC scope cl c X.env) fp) C.e.calm C.e.nd (CtxT.blk s H scope c cl fp) h4)
        (fun s H c cl fp => sC cd ifs (X.blk s H scope (compEnvC scope cl c X.env) fp) (relS scope sc) (C.e.blk s H scope c cl fp) h6)
        (fun s H c cl fp => sE elt' elt (X.blk s H scope (compEnvC scope cl c X.env) fp) (relS scope sc) (C.e.blk s H scope c cl fp) h7) (set_eq h3)) fun D σ H q => ?_
      exact lc_ok hown (set_core q)
    · cases h
mutual
theorem sS : ∀ (a : S) (st : Stmt) (X : Cx) (sc : Scope), CtxS X sc k P G F → chkS P G X.N sc a st = true → PS X st (tSs X.K (ex F a))
  | .pass, st, X, sc, C, h => by
    unfold chkS at h
    split at h
    · exact ss_pass
    · cases h
  | .brk, st, X, sc, C, h => by
    unfold chkS at h
    split at h
    · exact ss_brk
    · cases h
  | .set i a, st, X, sc, C, h => by
    unfold chkS at h
    split at h
    · rename_i y py v pos
      simp only [Bool.and_eq_true, decide_eq_true_eq] at h
      obtain ⟨⟨⟨h1, h2⟩, h3⟩, h4⟩ := h
      obtain ⟨l, f⟩ := C.t.loc _ (locB_iff h2)
      by_cases hn : notComp v = true
      · exact ss_set (sE a _ X sc C.e h3) (pg_name C.e.nd h1 l f) (by unfold swapsWithSole; exact swap_eq hn) stores_eq rfl
      · rcases Bool.or_eq_true_iff.mp h4 with z | z
        · exact absurd z hn
        · split at z
          · exact set_comp C h1 h2 h3 z
          · cases z
    · cases h
  | .expr a, st, X, sc, C, h => by
    unfold chkS at h
    split at h
    · simp only [Bool.and_eq_true] at h
      exact ss_expr (sE a _ X sc C.e h.2) (swap_eq h.1)
    · cases h
  | .ret a, st, X, sc, C, h => by
    unfold chkS at h
    split at h
    · exact ss_ret (sE a _ X sc C.e h)
    · cases h
  | .retN, st, X, sc, C, h => by
    unfold chkS at h
    split at h
    · exact ss_retN
    · cases h
  | .ife c a b, st, X, sc, C, h => by
    unfold chkS at h
    split at h
    · simp only [Bool.and_eq_true] at h
      exact ss_if (sT c _ X sc C.e h.1.1) (sSs a _ X sc C h.1.2) (sSs b _ X sc C h.2)
    · cases h
  | .for t it b, st, X, sc, C, h => by
    unfold chkS at h
    split at h
    · simp only [Bool.and_eq_true] at h
      obtain ⟨⟨⟨h1, h2⟩, h3⟩, h4⟩ := h
      exact ss_for C.p C.e.calm (sI it _ _ X sc C.e h3) (tg_pg C.e.calm C.e.nd C.t h2) (sSs b _ X sc C h4) (set_eq h1)
    · cases h
  | .while c b, st, X, sc, C, h => by
    unfold chkS at h
    split at h
    · simp only [Bool.and_eq_true] at h
      exact ss_while C.p (sT c _ X sc C.e h.1) (sSs b _ X sc C h.2) fuel
    · cases h
  | .app i a, st, X, sc, C, h => by
    unfold chkS at h
    split at h
    · simp only [Bool.and_eq_true] at h
      obtain ⟨⟨⟨⟨h1, h2⟩, h3⟩, h4⟩, h5⟩ := h
      have e1 := nm_eq h1
      subst e1
      obtain ⟨o1, o2, o3, o4⟩ := slot_iff h2
      exact ss_app o1 (by rw [C.e.sc]; exact o2) o3 o4 (sE a _ X sc C.e h5) (star_eq h3) h4
    · cases h
  | .ext i a, st, X, sc, C, h => by
    unfold chkS at h
    split at h
    · simp only [Bool.and_eq_true] at h
      obtain ⟨⟨⟨⟨h1, h2⟩, h3⟩, h4⟩, h5⟩ := h
      have e1 := nm_eq h1
      subst e1
      obtain ⟨o1, o2, o3, o4⟩ := slot_iff h2
      exact ss_ext o1 (by rw [C.e.sc]; exact o2) o3 o4 (sE a _ X sc C.e h5) (star_eq h3) h4
    · cases h
  | .stx i ke a, st, X, sc, C, h => by
    unfold chkS at h
    split at h
    · simp only [Bool.and_eq_true] at h
      obtain ⟨⟨⟨⟨h1, h2⟩, h3⟩, h4⟩, h5⟩ := h
      obtain ⟨o1, o2, o3, o4⟩ := slot_iff h1
      exact ss_stx o1 (by rw [C.e.sc]; exact o2) o3 o4 (sE a _ X sc C.e h5) (sE ke _ X sc C.e h4) (by unfold swapsWithSole; exact swap_eq h2) stores_eq2 (sub_assign h3)
    · cases h
  | .clear i, st, X, sc, C, h => by
    unfold chkS at h
    split at h
    · simp only [Bool.and_eq_true] at h
      obtain ⟨⟨h1, h2⟩, h3⟩ := h
      have e1 := nm_eq h1
      subst e1
      obtain ⟨o1, o2, o3, o4⟩ := slot_iff h2
      exact ss_clear o1 (by rw [C.e.sc]; exact o2) o3 o4 h3
    · cases h
  | .pop i, st, X, sc, C, h => by
    unfold chkS at h
    split at h
    · simp only [Bool.and_eq_true] at h
      obtain ⟨⟨h1, h2⟩, h3⟩ := h
      have e1 := nm_eq h1
      subst e1
      obtain ⟨o1, o2, o3, o4⟩ := slot_iff h2
      exact ss_pop o1 (by rw [C.e.sc]; exact o2) o3 o4 h3
    · cases h
theorem sSs : ∀ (a : Ss) (st : List Stmt) (X : Cx) (sc : Scope), CtxS X sc k P G F → chkSs P G X.N sc a st = true → PSs X st (tSs X.K (exs F a))
  | .nil, st, X, sc, C, h => by
    cases st <;> simp only [chkSs, Bool.false_eq_true] at h
    exact ss_nil
  | .cons a as, st, X, sc, C, h => by
    cases st <;> simp only [chkSs, Bool.false_eq_true, Bool.and_eq_true] at h
    exact ss_cons (sS a _ X sc C h.1) (sSs as _ X sc C h.2)
end
end

/-! ### a def, all defs -/
theorem Lv.start : ∀ (vs : List V) (ps : List PV) (n : Nat), vs.length = ps.length → Lv (vs.map some ++ List.replicate n none) (ps.map (fun p => some (Sl.sh p)) ++ List.replicate n none) (vs.zip (ps.map Sl.sh))
  | [], [], 0, _ => .nil
  | [], [], n + 1, _ => .skip (Lv.start [] [] n rfl)
  | v :: vs, p :: ps, n, h => .live (Lv.start vs ps n (by simpa using h))
  | [], _ :: _, _, h => by simp at h
  | _ :: _, [], _, h => by simp at h
theorem addrs_shs : ∀ (vs : List V) (ps : List PV), addrs (vs.zip (ps.map Sl.sh)) = []
  | [], _ => rfl
  | _ :: _, [] => rfl
  | v :: vs, p :: ps => by
    rw [List.map_cons, List.zip_cons_cons, addrs_sh]
    exact addrs_shs vs ps
theorem reps_zip {K : PySem.W.Frag} {H0 M H : Hp} : ∀ {vs : List V} {ps : List PV}, Reps K M vs ps → ∀ e ∈ vs.zip (ps.map Sl.sh), SlOk K H0 M H e.1 e.2
  | _, _, .nil => by simp
  | _, _, .cons h t => fun e he => by
    simp only [List.map_cons, List.zip_cons_cons, List.mem_cons] at he
    rcases he with rfl | he
    · exact h
    · exact reps_zip t e he
theorem run_len {f : Fn} {F : Fns} {args : List PV} {r : Sl} (h : f.run F args = some r) : args.length = f.ps.length := by
  unfold Fn.run at h
  split at h
  · assumption
  · cases h
/-- the written texts of the defs, as the head leaves them -/
structure Txts (K : PySem.W.Frag) (mg : Str → Option Value) (P : List Fn) (G : List (Str × PV)) : Prop where
  fn : ∀ (g : Nat) (f : Fn), P[g]? = some f → ∃ (st : Stmt) (a : Addr) (fd : FuncData), Fun K f.name f.name st a fd ∧ FnScope f.N f.ps (defScope st) ∧ chkSs P G f.N (defScope st) f.body (defBody st) = true ∧ mg f.name = some (.ref a) ∧ ∀ us : List Value, us.length = f.ps.length → bindArgs fd ⟨us, []⟩ = pure (f.ps.zip us)
  bl : ∀ n : String, (bTypes ++ bFuns ++ ["bool", "isinstance", "range", "enumerate", "zip", "reversed"]).contains n = true → mg (n : Str) = none
  gl : ∀ g ∈ G, ∃ v u, mg g.1 = some u ∧ RelV v u ∧ ∀ M, Rep K M v g.2
theorem fn_body {Pr : Program} {w : World} {K : PySem.W.Frag} {mg : Str → Option Value} {base : Heap} {P : List Fn} {G : List (Str × PV)} (X : Txts K mg P G) {n : Nat}
    (ih : ∀ (g : Nat) (f : Fn), P[g]? = some f → ∃ (a : Addr) (fd : FuncData), FnOk Pr w K mg base CX0 n a fd f.ps (spF K (fns P n g)) ∧ mg f.name = some (.ref a) ∧ PySem.W.keepIn K (.ref a) = true ∧ Binds K fd f.ps [])
    {g : Nat} {f : Fn} (hg : P[g]? = some f) {st : Stmt} {a : Addr} {fd : FuncData} (F : Fun K f.name f.name st a fd) (S : FnScope f.N f.ps (defScope st)) (hc : chkSs P G f.N (defScope st) f.body (defBody st) = true) :
    FnOk Pr w K mg base CX0 (n + 1) a fd f.ps (spF K (fns P (n + 1) g)) := by
  have er : ∀ args, fns P (n + 1) g args = f.run (fns P n) args := fun args => by simp only [fns, hg]
  refine F.ok S (fun vs H Q E h => ?_) (fun cdv A outer s H vs Q E hr h => ?_)
  · obtain ⟨M, ps, r, _, h2, h3, _⟩ := h
    rw [er] at h3
    rw [h2.length]
    exact run_len h3
  · obtain ⟨M, ps, r, h1, h2, h3, h4⟩ := h
    rw [er] at h3
    have C : CtxS (cxOf CX0 Pr w K mg base f.N f.name (defScope st) a cdv A outer s H E).nox (defScope st) n P G (fns P n) :=
      ⟨⟨rfl, S.nd, rfl, hr, fun g f hf => ⟨ih g f hf⟩, X.bl, X.gl⟩, ⟨fun x hx => ⟨hx, .inl rfl⟩⟩, PassesOwn.never, S.kind⟩
    refine ⟨_, sSs f.body (defBody st) _ _ C hc, ?_⟩
    have hl := run_len h3
    unfold Fn.run at h3
    rw [if_pos hl] at h3
    have sa : SA K H M (L2.start f.N vs) (ps.map (fun p => some (Sl.sh p)) ++ List.replicate (f.N.length - ps.length) none) [] H := by
      refine ⟨vs.zip (ps.map Sl.sh), M, ?_, ?_, fun v i hm => by cases hm⟩
      · unfold L2.start
        rw [h2.length]
        exact Lv.start vs ps _ h2.length
      · show Hyp K H M M H (vs.zip (ps.map Sl.sh) ++ [])
        rw [List.append_nil]
        exact ⟨h1, Same.refl M, fun b o e => .inl e, Same.refl H, reps_zip h2, by rw [addrs_shs]; exact List.nodup_nil⟩
    cases er2 : exs (fns P n) f.body (ps.map (fun p => some (Sl.sh p)) ++ List.replicate (f.N.length - ps.length) none) with
    | none => rw [er2] at h3; cases h3
    | some fl =>
      rw [er2] at h3
      refine ⟨H, M, _, [], fl, er2, noB.nil, sa, ?_⟩
      cases fl with
      | next env => 
        cases h3
        intro σ' H' sa'
        obtain ⟨E', M', sx⟩ := sa'
        exact h4 .non H' ⟨M', (sx.hyp.push .non).sublist (List.sublist_append_right _ _)⟩
      | ret s =>
        cases h3
        exact fun v H' M' hy => h4 v H' ⟨M', hy⟩
      | brk env => cases h3
theorem fns_ok {Pr : Program} {w : World} {K : PySem.W.Frag} {mg : Str → Option Value} {base : Heap} {P : List Fn} {G : List (Str × PV)} (X : Txts K mg P G) : ∀ (n : Nat) (g : Nat) (f : Fn), P[g]? = some f →
    ∃ (a : Addr) (fd : FuncData), FnOk Pr w K mg base CX0 n a fd f.ps (spF K (fns P n g)) ∧ mg f.name = some (.ref a) ∧ PySem.W.keepIn K (.ref a) = true ∧ Binds K fd f.ps []
  | 0, g, f, hg => by
    obtain ⟨st, a, fd, F, S, hc, hm, hb⟩ := X.fn g f hg
    refine ⟨a, fd, ⟨fun vs H Q E h => ?_, fun A outer s H args us vs Q E _ _ _ _ h => ?_⟩, hm, F.kp, .all hb⟩
    · obtain ⟨M, ps, r, _, _, h3, _⟩ := h
      cases h3
    · obtain ⟨M, ps, r, _, _, h3, _⟩ := h
      cases h3
  | n + 1, g, f, hg => by
    obtain ⟨st, a, fd, F, S, hc, hm, hb⟩ := X.fn g f hg
    exact ⟨a, fd, fn_body X (fns_ok X n) hg F S hc, hm, F.kp, .all hb⟩
/-- the law's own promise -/
def spLaw (K : PySem.W.Frag) (F : List PV → Option Sl) : Sp := fun vs H Q _ => ∃ (a : Addr) (ns : List Int), vs = [.ref a] ∧ SqL K H a (ns.map V.int) ∧ F [.lst (ns.map PV.int)] = some (.sh (.bl true)) ∧ ∀ H', Q (.bl true) H'
theorem sp_law {K : PySem.W.Frag} {F : List PV → Option Sl} {vs : List V} {H : Hp} {Q : VK} {E : XK} (h : spLaw K F vs H Q E) : spF K F vs H Q E := by
  obtain ⟨a, ns, rfl, h1, h2, h3⟩ := h
  refine ⟨H, _, _, Same.refl H, .cons (.lst h1 (Reps.of_ints ns)) .nil, h2, fun v H' ⟨M', hy⟩ => ?_⟩
  have := hy.ok _ (List.mem_singleton.mpr rfl)
  cases this
  exact h3 H'
theorem law_end {Pr : Program} {w : World} {K : PySem.W.Frag} {mg : Str → Option Value} {P : List Fn} {G : List (Str × PV)} (X : Txts K mg P G) {g : Nat} {f : Fn} (hg : P[g]? = some f) {x : Str} (hp : f.ps = [x]) {fa : Addr} (hm : mg f.name = some (.ref fa)) (n : Nat) :
    ∃ fd : FuncData, (∀ (s : Shared) (u : Value), BindsTo s fd ⟨[u], []⟩ [(x, u)]) ∧ ∀ base : Heap, K.In base → base.Ns mainGlobals mg → FnOk Pr w K mg base CX0 (n + 1) fa fd [x] (spLaw K (fns P (n + 1) g)) := by
  obtain ⟨st, a, fd, F, S, hc, hm', hb⟩ := X.fn g f hg
  rw [hm] at hm'
  cases hm'
  refine ⟨fd, fun s u => .of_eq ?_, fun base _ _ => ?_⟩
  · rw [hb [u] (by rw [hp]; rfl), hp]
    rfl
  · have := (fn_body (Pr := Pr) (w := w) (base := base) X (fns_ok X n) hg F S hc).imp fun vs H Q E h => sp_law h
    rw [hp] at this
    exact this
end Mir
/-! Mir12: the evaluator by rewriting, head first. Printed by mk12.py. -/
namespace Mir
open PySem PySem.Spec PyProof.Rows L2
section
variable {α : Type} {F : Fns} {env : PEnv} {k : Bw × PEnv → Option α}

theorem k_non : (ev F (.non) env).bind k = k (.t (.sh (.non)), env) := Eq.trans rfl rfl
theorem k_bl {b : Bool} : (ev F (.bl b) env).bind k = k (.t (.sh (.bl b)), env) := Eq.trans rfl rfl
theorem k_int {i : Int} : (ev F (.int i) env).bind k = k (.t (.sh (.int i)), env) := Eq.trans rfl rfl
theorem k_str {s : Str} : (ev F (.str s) env).bind k = k (.t (.sh (.str s)), env) := Eq.trans rfl rfl
theorem k_glob {x : Str} {p : PV} : (ev F (.glob x p) env).bind k = k (.t (.sh p), env) := Eq.trans rfl rfl
theorem k_var_sh0 {p : PV} {l : PEnv} : (ev F (.var 0) (some (.sh p) :: l)).bind k = k (.t (.sh p), some (.sh p) :: l) := Eq.trans rfl rfl
theorem k_var_own0 {p : List PV} {l : PEnv} : (ev F (.var 0) (some (.own p) :: l)).bind k = k (.b 0, some (.own p) :: l) := Eq.trans rfl rfl
theorem k_var_sh1 {x0 : Option Sl} {p : PV} {l : PEnv} : (ev F (.var 1) (x0 :: some (.sh p) :: l)).bind k = k (.t (.sh p), x0 :: some (.sh p) :: l) := Eq.trans rfl rfl
theorem k_var_own1 {x0 : Option Sl} {p : List PV} {l : PEnv} : (ev F (.var 1) (x0 :: some (.own p) :: l)).bind k = k (.b 1, x0 :: some (.own p) :: l) := Eq.trans rfl rfl
theorem k_var_sh2 {x0 x1 : Option Sl} {p : PV} {l : PEnv} : (ev F (.var 2) (x0 :: x1 :: some (.sh p) :: l)).bind k = k (.t (.sh p), x0 :: x1 :: some (.sh p) :: l) := Eq.trans rfl rfl
theorem k_var_own2 {x0 x1 : Option Sl} {p : List PV} {l : PEnv} : (ev F (.var 2) (x0 :: x1 :: some (.own p) :: l)).bind k = k (.b 2, x0 :: x1 :: some (.own p) :: l) := Eq.trans rfl rfl
theorem k_var_sh3 {x0 x1 x2 : Option Sl} {p : PV} {l : PEnv} : (ev F (.var 3) (x0 :: x1 :: x2 :: some (.sh p) :: l)).bind k = k (.t (.sh p), x0 :: x1 :: x2 :: some (.sh p) :: l) := Eq.trans rfl rfl
theorem k_var_own3 {x0 x1 x2 : Option Sl} {p : List PV} {l : PEnv} : (ev F (.var 3) (x0 :: x1 :: x2 :: some (.own p) :: l)).bind k = k (.b 3, x0 :: x1 :: x2 :: some (.own p) :: l) := Eq.trans rfl rfl
theorem k_var_sh4 {x0 x1 x2 x3 : Option Sl} {p : PV} {l : PEnv} : (ev F (.var 4) (x0 :: x1 :: x2 :: x3 :: some (.sh p) :: l)).bind k = k (.t (.sh p), x0 :: x1 :: x2 :: x3 :: some (.sh p) :: l) := Eq.trans rfl rfl
theorem k_var_own4 {x0 x1 x2 x3 : Option Sl} {p : List PV} {l : PEnv} : (ev F (.var 4) (x0 :: x1 :: x2 :: x3 :: some (.own p) :: l)).bind k = k (.b 4, x0 :: x1 :: x2 :: x3 :: some (.own p) :: l) := Eq.trans rfl rfl
theorem k_var_sh5 {x0 x1 x2 x3 x4 : Option Sl} {p : PV} {l : PEnv} : (ev F (.var 5) (x0 :: x1 :: x2 :: x3 :: x4 :: some (.sh p) :: l)).bind k = k (.t (.sh p), x0 :: x1 :: x2 :: x3 :: x4 :: some (.sh p) :: l) := Eq.trans rfl rfl
theorem k_var_own5 {x0 x1 x2 x3 x4 : Option Sl} {p : List PV} {l : PEnv} : (ev F (.var 5) (x0 :: x1 :: x2 :: x3 :: x4 :: some (.own p) :: l)).bind k = k (.b 5, x0 :: x1 :: x2 :: x3 :: x4 :: some (.own p) :: l) := Eq.trans rfl rfl
theorem k_var_sh6 {x0 x1 x2 x3 x4 x5 : Option Sl} {p : PV} {l : PEnv} : (ev F (.var 6) (x0 :: x1 :: x2 :: x3 :: x4 :: x5 :: some (.sh p) :: l)).bind k = k (.t (.sh p), x0 :: x1 :: x2 :: x3 :: x4 :: x5 :: some (.sh p) :: l) := Eq.trans rfl rfl
theorem k_var_own6 {x0 x1 x2 x3 x4 x5 : Option Sl} {p : List PV} {l : PEnv} : (ev F (.var 6) (x0 :: x1 :: x2 :: x3 :: x4 :: x5 :: some (.own p) :: l)).bind k = k (.b 6, x0 :: x1 :: x2 :: x3 :: x4 :: x5 :: some (.own p) :: l) := Eq.trans rfl rfl
theorem k_var_sh7 {x0 x1 x2 x3 x4 x5 x6 : Option Sl} {p : PV} {l : PEnv} : (ev F (.var 7) (x0 :: x1 :: x2 :: x3 :: x4 :: x5 :: x6 :: some (.sh p) :: l)).bind k = k (.t (.sh p), x0 :: x1 :: x2 :: x3 :: x4 :: x5 :: x6 :: some (.sh p) :: l) := Eq.trans rfl rfl
theorem k_var_own7 {x0 x1 x2 x3 x4 x5 x6 : Option Sl} {p : List PV} {l : PEnv} : (ev F (.var 7) (x0 :: x1 :: x2 :: x3 :: x4 :: x5 :: x6 :: some (.own p) :: l)).bind k = k (.b 7, x0 :: x1 :: x2 :: x3 :: x4 :: x5 :: x6 :: some (.own p) :: l) := Eq.trans rfl rfl
theorem k_var_sh8 {x0 x1 x2 x3 x4 x5 x6 x7 : Option Sl} {p : PV} {l : PEnv} : (ev F (.var 8) (x0 :: x1 :: x2 :: x3 :: x4 :: x5 :: x6 :: x7 :: some (.sh p) :: l)).bind k = k (.t (.sh p), x0 :: x1 :: x2 :: x3 :: x4 :: x5 :: x6 :: x7 :: some (.sh p) :: l) := Eq.trans rfl rfl
theorem k_var_own8 {x0 x1 x2 x3 x4 x5 x6 x7 : Option Sl} {p : List PV} {l : PEnv} : (ev F (.var 8) (x0 :: x1 :: x2 :: x3 :: x4 :: x5 :: x6 :: x7 :: some (.own p) :: l)).bind k = k (.b 8, x0 :: x1 :: x2 :: x3 :: x4 :: x5 :: x6 :: x7 :: some (.own p) :: l) := Eq.trans rfl rfl
theorem k_var_sh9 {x0 x1 x2 x3 x4 x5 x6 x7 x8 : Option Sl} {p : PV} {l : PEnv} : (ev F (.var 9) (x0 :: x1 :: x2 :: x3 :: x4 :: x5 :: x6 :: x7 :: x8 :: some (.sh p) :: l)).bind k = k (.t (.sh p), x0 :: x1 :: x2 :: x3 :: x4 :: x5 :: x6 :: x7 :: x8 :: some (.sh p) :: l) := Eq.trans rfl rfl
theorem k_var_own9 {x0 x1 x2 x3 x4 x5 x6 x7 x8 : Option Sl} {p : List PV} {l : PEnv} : (ev F (.var 9) (x0 :: x1 :: x2 :: x3 :: x4 :: x5 :: x6 :: x7 :: x8 :: some (.own p) :: l)).bind k = k (.b 9, x0 :: x1 :: x2 :: x3 :: x4 :: x5 :: x6 :: x7 :: x8 :: some (.own p) :: l) := Eq.trans rfl rfl
theorem k_var_sh10 {x0 x1 x2 x3 x4 x5 x6 x7 x8 x9 : Option Sl} {p : PV} {l : PEnv} : (ev F (.var 10) (x0 :: x1 :: x2 :: x3 :: x4 :: x5 :: x6 :: x7 :: x8 :: x9 :: some (.sh p) :: l)).bind k = k (.t (.sh p), x0 :: x1 :: x2 :: x3 :: x4 :: x5 :: x6 :: x7 :: x8 :: x9 :: some (.sh p) :: l) := Eq.trans rfl rfl
theorem k_var_own10 {x0 x1 x2 x3 x4 x5 x6 x7 x8 x9 : Option Sl} {p : List PV} {l : PEnv} : (ev F (.var 10) (x0 :: x1 :: x2 :: x3 :: x4 :: x5 :: x6 :: x7 :: x8 :: x9 :: some (.own p) :: l)).bind k = k (.b 10, x0 :: x1 :: x2 :: x3 :: x4 :: x5 :: x6 :: x7 :: x8 :: x9 :: some (.own p) :: l) := Eq.trans rfl rfl
theorem k_var_sh11 {x0 x1 x2 x3 x4 x5 x6 x7 x8 x9 x10 : Option Sl} {p : PV} {l : PEnv} : (ev F (.var 11) (x0 :: x1 :: x2 :: x3 :: x4 :: x5 :: x6 :: x7 :: x8 :: x9 :: x10 :: some (.sh p) :: l)).bind k = k (.t (.sh p), x0 :: x1 :: x2 :: x3 :: x4 :: x5 :: x6 :: x7 :: x8 :: x9 :: x10 :: some (.sh p) :: l) := Eq.trans rfl rfl
theorem k_var_own11 {x0 x1 x2 x3 x4 x5 x6 x7 x8 x9 x10 : Option Sl} {p : List PV} {l : PEnv} : (ev F (.var 11) (x0 :: x1 :: x2 :: x3 :: x4 :: x5 :: x6 :: x7 :: x8 :: x9 :: x10 :: some (.own p) :: l)).bind k = k (.b 11, x0 :: x1 :: x2 :: x3 :: x4 :: x5 :: x6 :: x7 :: x8 :: x9 :: x10 :: some (.own p) :: l) := Eq.trans rfl rfl
theorem k_var_sh12 {x0 x1 x2 x3 x4 x5 x6 x7 x8 x9 x10 x11 : Option Sl} {p : PV} {l : PEnv} : (ev F (.var 12) (x0 :: x1 :: x2 :: x3 :: x4 :: x5 :: x6 :: x7 :: x8 :: x9 :: x10 :: x11 :: some (.sh p) :: l)).bind k = k (.t (.sh p), x0 :: x1 :: x2 :: x3 :: x4 :: x5 :: x6 :: x7 :: x8 :: x9 :: x10 :: x11 :: some (.sh p) :: l) := Eq.trans rfl rfl
theorem k_var_own12 {x0 x1 x2 x3 x4 x5 x6 x7 x8 x9 x10 x11 : Option Sl} {p : List PV} {l : PEnv} : (ev F (.var 12) (x0 :: x1 :: x2 :: x3 :: x4 :: x5 :: x6 :: x7 :: x8 :: x9 :: x10 :: x11 :: some (.own p) :: l)).bind k = k (.b 12, x0 :: x1 :: x2 :: x3 :: x4 :: x5 :: x6 :: x7 :: x8 :: x9 :: x10 :: x11 :: some (.own p) :: l) := Eq.trans rfl rfl
theorem k_var_sh13 {x0 x1 x2 x3 x4 x5 x6 x7 x8 x9 x10 x11 x12 : Option Sl} {p : PV} {l : PEnv} : (ev F (.var 13) (x0 :: x1 :: x2 :: x3 :: x4 :: x5 :: x6 :: x7 :: x8 :: x9 :: x10 :: x11 :: x12 :: some (.sh p) :: l)).bind k = k (.t (.sh p), x0 :: x1 :: x2 :: x3 :: x4 :: x5 :: x6 :: x7 :: x8 :: x9 :: x10 :: x11 :: x12 :: some (.sh p) :: l) := Eq.trans rfl rfl
theorem k_var_own13 {x0 x1 x2 x3 x4 x5 x6 x7 x8 x9 x10 x11 x12 : Option Sl} {p : List PV} {l : PEnv} : (ev F (.var 13) (x0 :: x1 :: x2 :: x3 :: x4 :: x5 :: x6 :: x7 :: x8 :: x9 :: x10 :: x11 :: x12 :: some (.own p) :: l)).bind k = k (.b 13, x0 :: x1 :: x2 :: x3 :: x4 :: x5 :: x6 :: x7 :: x8 :: x9 :: x10 :: x11 :: x12 :: some (.own p) :: l) := Eq.trans rfl rfl
theorem k_var_sh14 {x0 x1 x2 x3 x4 x5 x6 x7 x8 x9 x10 x11 x12 x13 : Option Sl} {p : PV} {l : PEnv} : (ev F (.var 14) (x0 :: x1 :: x2 :: x3 :: x4 :: x5 :: x6 :: x7 :: x8 :: x9 :: x10 :: x11 :: x12 :: x13 :: some (.sh p) :: l)).bind k = k (.t (.sh p), x0 :: x1 :: x2 :: x3 :: x4 :: x5 :: x6 :: x7 :: x8 :: x9 :: x10 :: x11 :: x12 :: x13 :: some (.sh p) :: l) := Eq.trans rfl rfl
theorem k_var_own14 {x0 x1 x2 x3 x4 x5 x6 x7 x8 x9 x10 x11 x12 x13 : Option Sl} {p : List PV} {l : PEnv} : (ev F (.var 14) (x0 :: x1 :: x2 :: x3 :: x4 :: x5 :: x6 :: x7 :: x8 :: x9 :: x10 :: x11 :: x12 :: x13 :: some (.own p) :: l)).bind k = k (.b 14, x0 :: x1 :: x2 :: x3 :: x4 :: x5 :: x6 :: x7 :: x8 :: x9 :: x10 :: x11 :: x12 :: x13 :: some (.own p) :: l) := Eq.trans rfl rfl
theorem k_var_sh15 {x0 x1 x2 x3 x4 x5 x6 x7 x8 x9 x10 x11 x12 x13 x14 : Option Sl} {p : PV} {l : PEnv} : (ev F (.var 15) (x0 :: x1 :: x2 :: x3 :: x4 :: x5 :: x6 :: x7 :: x8 :: x9 :: x10 :: x11 :: x12 :: x13 :: x14 :: some (.sh p) :: l)).bind k = k (.t (.sh p), x0 :: x1 :: x2 :: x3 :: x4 :: x5 :: x6 :: x7 :: x8 :: x9 :: x10 :: x11 :: x12 :: x13 :: x14 :: some (.sh p) :: l) := Eq.trans rfl rfl
theorem k_var_own15 {x0 x1 x2 x3 x4 x5 x6 x7 x8 x9 x10 x11 x12 x13 x14 : Option Sl} {p : List PV} {l : PEnv} : (ev F (.var 15) (x0 :: x1 :: x2 :: x3 :: x4 :: x5 :: x6 :: x7 :: x8 :: x9 :: x10 :: x11 :: x12 :: x13 :: x14 :: some (.own p) :: l)).bind k = k (.b 15, x0 :: x1 :: x2 :: x3 :: x4 :: x5 :: x6 :: x7 :: x8 :: x9 :: x10 :: x11 :: x12 :: x13 :: x14 :: some (.own p) :: l) := Eq.trans rfl rfl
theorem k_var_sh16 {x0 x1 x2 x3 x4 x5 x6 x7 x8 x9 x10 x11 x12 x13 x14 x15 : Option Sl} {p : PV} {l : PEnv} : (ev F (.var 16) (x0 :: x1 :: x2 :: x3 :: x4 :: x5 :: x6 :: x7 :: x8 :: x9 :: x10 :: x11 :: x12 :: x13 :: x14 :: x15 :: some (.sh p) :: l)).bind k = k (.t (.sh p), x0 :: x1 :: x2 :: x3 :: x4 :: x5 :: x6 :: x7 :: x8 :: x9 :: x10 :: x11 :: x12 :: x13 :: x14 :: x15 :: some (.sh p) :: l) := Eq.trans rfl rfl
theorem k_var_own16 {x0 x1 x2 x3 x4 x5 x6 x7 x8 x9 x10 x11 x12 x13 x14 x15 : Option Sl} {p : List PV} {l : PEnv} : (ev F (.var 16) (x0 :: x1 :: x2 :: x3 :: x4 :: x5 :: x6 :: x7 :: x8 :: x9 :: x10 :: x11 :: x12 :: x13 :: x14 :: x15 :: some (.own p) :: l)).bind k = k (.b 16, x0 :: x1 :: x2 :: x3 :: x4 :: x5 :: x6 :: x7 :: x8 :: x9 :: x10 :: x11 :: x12 :: x13 :: x14 :: x15 :: some (.own p) :: l) := Eq.trans rfl rfl
theorem k_var_sh17 {x0 x1 x2 x3 x4 x5 x6 x7 x8 x9 x10 x11 x12 x13 x14 x15 x16 : Option Sl} {p : PV} {l : PEnv} : (ev F (.var 17) (x0 :: x1 :: x2 :: x3 :: x4 :: x5 :: x6 :: x7 :: x8 :: x9 :: x10 :: x11 :: x12 :: x13 :: x14 :: x15 :: x16 :: some (.sh p) :: l)).bind k = k (.t (.sh p), x0 :: x1 :: x2 :: x3 :: x4 :: x5 :: x6 :: x7 :: x8 :: x9 :: x10 :: x11 :: x12 :: x13 :: x14 :: x15 :: x16 :: some (.sh p) :: l) := Eq.trans rfl rfl
theorem k_var_own17 {x0 x1 x2 x3 x4 x5 x6 x7 x8 x9 x10 x11 x12 x13 x14 x15 x16 : Option Sl} {p : List PV} {l : PEnv} : (ev F (.var 17) (x0 :: x1 :: x2 :: x3 :: x4 :: x5 :: x6 :: x7 :: x8 :: x9 :: x10 :: x11 :: x12 :: x13 :: x14 :: x15 :: x16 :: some (.own p) :: l)).bind k = k (.b 17, x0 :: x1 :: x2 :: x3 :: x4 :: x5 :: x6 :: x7 :: x8 :: x9 :: x10 :: x11 :: x12 :: x13 :: x14 :: x15 :: x16 :: some (.own p) :: l) := Eq.trans rfl rfl
theorem k_var_sh18 {x0 x1 x2 x3 x4 x5 x6 x7 x8 x9 x10 x11 x12 x13 x14 x15 x16 x17 : Option Sl} {p : PV} {l : PEnv} : (ev F (.var 18) (x0 :: x1 :: x2 :: x3 :: x4 :: x5 :: x6 :: x7 :: x8 :: x9 :: x10 :: x11 :: x12 :: x13 :: x14 :: x15 :: x16 :: x17 :: some (.sh p) :: l)).bind k = k (.t (.sh p), x0 :: x1 :: x2 :: x3 :: x4 :: x5 :: x6 :: x7 :: x8 :: x9 :: x10 :: x11 :: x12 :: x13 :: x14 :: x15 :: x16 :: x17 :: some (.sh p) :: l) := Eq.trans rfl rfl
theorem k_var_own18 {x0 x1 x2 x3 x4 x5 x6 x7 x8 x9 x10 x11 x12 x13 x14 x15 x16 x17 : Option Sl} {p : List PV} {l : PEnv} : (ev F (.var 18) (x0 :: x1 :: x2 :: x3 :: x4 :: x5 :: x6 :: x7 :: x8 :: x9 :: x10 :: x11 :: x12 :: x13 :: x14 :: x15 :: x16 :: x17 :: some (.own p) :: l)).bind k = k (.b 18, x0 :: x1 :: x2 :: x3 :: x4 :: x5 :: x6 :: x7 :: x8 :: x9 :: x10 :: x11 :: x12 :: x13 :: x14 :: x15 :: x16 :: x17 :: some (.own p) :: l) := Eq.trans rfl rfl
theorem k_var_sh19 {x0 x1 x2 x3 x4 x5 x6 x7 x8 x9 x10 x11 x12 x13 x14 x15 x16 x17 x18 : Option Sl} {p : PV} {l : PEnv} : (ev F (.var 19) (x0 :: x1 :: x2 :: x3 :: x4 :: x5 :: x6 :: x7 :: x8 :: x9 :: x10 :: x11 :: x12 :: x13 :: x14 :: x15 :: x16 :: x17 :: x18 :: some (.sh p) :: l)).bind k = k (.t (.sh p), x0 :: x1 :: x2 :: x3 :: x4 :: x5 :: x6 :: x7 :: x8 :: x9 :: x10 :: x11 :: x12 :: x13 :: x14 :: x15 :: x16 :: x17 :: x18 :: some (.sh p) :: l) := Eq.trans rfl rfl
theorem k_var_own19 {x0 x1 x2 x3 x4 x5 x6 x7 x8 x9 x10 x11 x12 x13 x14 x15 x16 x17 x18 : Option Sl} {p : List PV} {l : PEnv} : (ev F (.var 19) (x0 :: x1 :: x2 :: x3 :: x4 :: x5 :: x6 :: x7 :: x8 :: x9 :: x10 :: x11 :: x12 :: x13 :: x14 :: x15 :: x16 :: x17 :: x18 :: some (.own p) :: l)).bind k = k (.b 19, x0 :: x1 :: x2 :: x3 :: x4 :: x5 :: x6 :: x7 :: x8 :: x9 :: x10 :: x11 :: x12 :: x13 :: x14 :: x15 :: x16 :: x17 :: x18 :: some (.own p) :: l) := Eq.trans rfl rfl
theorem k_var_sh20 {x0 x1 x2 x3 x4 x5 x6 x7 x8 x9 x10 x11 x12 x13 x14 x15 x16 x17 x18 x19 : Option Sl} {p : PV} {l : PEnv} : (ev F (.var 20) (x0 :: x1 :: x2 :: x3 :: x4 :: x5 :: x6 :: x7 :: x8 :: x9 :: x10 :: x11 :: x12 :: x13 :: x14 :: x15 :: x16 :: x17 :: x18 :: x19 :: some (.sh p) :: l)).bind k = k (.t (.sh p), x0 :: x1 :: x2 :: x3 :: x4 :: x5 :: x6 :: x7 :: x8 :: x9 :: x10 :: x11 :: x12 :: x13 :: x14 :: x15 :: x16 :: x17 :: x18 :: x19 :: some (.sh p) :: l) := Eq.trans rfl rfl
theorem k_var_own20 {x0 x1 x2 x3 x4 x5 x6 x7 x8 x9 x10 x11 x12 x13 x14 x15 x16 x17 x18 x19 : Option Sl} {p : List PV} {l : PEnv} : (ev F (.var 20) (x0 :: x1 :: x2 :: x3 :: x4 :: x5 :: x6 :: x7 :: x8 :: x9 :: x10 :: x11 :: x12 :: x13 :: x14 :: x15 :: x16 :: x17 :: x18 :: x19 :: some (.own p) :: l)).bind k = k (.b 20, x0 :: x1 :: x2 :: x3 :: x4 :: x5 :: x6 :: x7 :: x8 :: x9 :: x10 :: x11 :: x12 :: x13 :: x14 :: x15 :: x16 :: x17 :: x18 :: x19 :: some (.own p) :: l) := Eq.trans rfl rfl
theorem k_var_sh21 {x0 x1 x2 x3 x4 x5 x6 x7 x8 x9 x10 x11 x12 x13 x14 x15 x16 x17 x18 x19 x20 : Option Sl} {p : PV} {l : PEnv} : (ev F (.var 21) (x0 :: x1 :: x2 :: x3 :: x4 :: x5 :: x6 :: x7 :: x8 :: x9 :: x10 :: x11 :: x12 :: x13 :: x14 :: x15 :: x16 :: x17 :: x18 :: x19 :: x20 :: some (.sh p) :: l)).bind k = k (.t (.sh p), x0 :: x1 :: x2 :: x3 :: x4 :: x5 :: x6 :: x7 :: x8 :: x9 :: x10 :: x11 :: x12 :: x13 :: x14 :: x15 :: x16 :: x17 :: x18 :: x19 :: x20 :: some (.sh p) :: l) := Eq.trans rfl rfl
theorem k_var_own21 {x0 x1 x2 x3 x4 x5 x6 x7 x8 x9 x10 x11 x12 x13 x14 x15 x16 x17 x18 x19 x20 : Option Sl} {p : List PV} {l : PEnv} : (ev F (.var 21) (x0 :: x1 :: x2 :: x3 :: x4 :: x5 :: x6 :: x7 :: x8 :: x9 :: x10 :: x11 :: x12 :: x13 :: x14 :: x15 :: x16 :: x17 :: x18 :: x19 :: x20 :: some (.own p) :: l)).bind k = k (.b 21, x0 :: x1 :: x2 :: x3 :: x4 :: x5 :: x6 :: x7 :: x8 :: x9 :: x10 :: x11 :: x12 :: x13 :: x14 :: x15 :: x16 :: x17 :: x18 :: x19 :: x20 :: some (.own p) :: l) := Eq.trans rfl rfl
theorem k_var_sh22 {x0 x1 x2 x3 x4 x5 x6 x7 x8 x9 x10 x11 x12 x13 x14 x15 x16 x17 x18 x19 x20 x21 : Option Sl} {p : PV} {l : PEnv} : (ev F (.var 22) (x0 :: x1 :: x2 :: x3 :: x4 :: x5 :: x6 :: x7 :: x8 :: x9 :: x10 :: x11 :: x12 :: x13 :: x14 :: x15 :: x16 :: x17 :: x18 :: x19 :: x20 :: x21 :: some (.sh p) :: l)).bind k = k (.t (.sh p), x0 :: x1 :: x2 :: x3 :: x4 :: x5 :: x6 :: x7 :: x8 :: x9 :: x10 :: x11 :: x12 :: x13 :: x14 :: x15 :: x16 :: x17 :: x18 :: x19 :: x20 :: x21 :: some (.sh p) :: l) := Eq.trans rfl rfl
theorem k_var_own22 {x0 x1 x2 x3 x4 x5 x6 x7 x8 x9 x10 x11 x12 x13 x14 x15 x16 x17 x18 x19 x20 x21 : Option Sl} {p : List PV} {l : PEnv} : (ev F (.var 22) (x0 :: x1 :: x2 :: x3 :: x4 :: x5 :: x6 :: x7 :: x8 :: x9 :: x10 :: x11 :: x12 :: x13 :: x14 :: x15 :: x16 :: x17 :: x18 :: x19 :: x20 :: x21 :: some (.own p) :: l)).bind k = k (.b 22, x0 :: x1 :: x2 :: x3 :: x4 :: x5 :: x6 :: x7 :: x8 :: x9 :: x10 :: x11 :: x12 :: x13 :: x14 :: x15 :: x16 :: x17 :: x18 :: x19 :: x20 :: x21 :: some (.own p) :: l) := Eq.trans rfl rfl
theorem k_var_sh23 {x0 x1 x2 x3 x4 x5 x6 x7 x8 x9 x10 x11 x12 x13 x14 x15 x16 x17 x18 x19 x20 x21 x22 : Option Sl} {p : PV} {l : PEnv} : (ev F (.var 23) (x0 :: x1 :: x2 :: x3 :: x4 :: x5 :: x6 :: x7 :: x8 :: x9 :: x10 :: x11 :: x12 :: x13 :: x14 :: x15 :: x16 :: x17 :: x18 :: x19 :: x20 :: x21 :: x22 :: some (.sh p) :: l)).bind k = k (.t (.sh p), x0 :: x1 :: x2 :: x3 :: x4 :: x5 :: x6 :: x7 :: x8 :: x9 :: x10 :: x11 :: x12 :: x13 :: x14 :: x15 :: x16 :: x17 :: x18 :: x19 :: x20 :: x21 :: x22 :: some (.sh p) :: l) := Eq.trans rfl rfl
theorem k_var_own23 {x0 x1 x2 x3 x4 x5 x6 x7 x8 x9 x10 x11 x12 x13 x14 x15 x16 x17 x18 x19 x20 x21 x22 : Option Sl} {p : List PV} {l : PEnv} : (ev F (.var 23) (x0 :: x1 :: x2 :: x3 :: x4 :: x5 :: x6 :: x7 :: x8 :: x9 :: x10 :: x11 :: x12 :: x13 :: x14 :: x15 :: x16 :: x17 :: x18 :: x19 :: x20 :: x21 :: x22 :: some (.own p) :: l)).bind k = k (.b 23, x0 :: x1 :: x2 :: x3 :: x4 :: x5 :: x6 :: x7 :: x8 :: x9 :: x10 :: x11 :: x12 :: x13 :: x14 :: x15 :: x16 :: x17 :: x18 :: x19 :: x20 :: x21 :: x22 :: some (.own p) :: l) := Eq.trans rfl rfl
theorem k_var_sh24 {x0 x1 x2 x3 x4 x5 x6 x7 x8 x9 x10 x11 x12 x13 x14 x15 x16 x17 x18 x19 x20 x21 x22 x23 : Option Sl} {p : PV} {l : PEnv} : (ev F (.var 24) (x0 :: x1 :: x2 :: x3 :: x4 :: x5 :: x6 :: x7 :: x8 :: x9 :: x10 :: x11 :: x12 :: x13 :: x14 :: x15 :: x16 :: x17 :: x18 :: x19 :: x20 :: x21 :: x22 :: x23 :: some (.sh p) :: l)).bind k = k (.t (.sh p), x0 :: x1 :: x2 :: x3 :: x4 :: x5 :: x6 :: x7 :: x8 :: x9 :: x10 :: x11 :: x12 :: x13 :: x14 :: x15 :: x16 :: x17 :: x18 :: x19 :: x20 :: x21 :: x22 :: x23 :: some (.sh p) :: l) := Eq.trans rfl rfl
theorem k_var_own24 {x0 x1 x2 x3 x4 x5 x6 x7 x8 x9 x10 x11 x12 x13 x14 x15 x16 x17 x18 x19 x20 x21 x22 x23 : Option Sl} {p : List PV} {l : PEnv} : (ev F (.var 24) (x0 :: x1 :: x2 :: x3 :: x4 :: x5 :: x6 :: x7 :: x8 :: x9 :: x10 :: x11 :: x12 :: x13 :: x14 :: x15 :: x16 :: x17 :: x18 :: x19 :: x20 :: x21 :: x22 :: x23 :: some (.own p) :: l)).bind k = k (.b 24, x0 :: x1 :: x2 :: x3 :: x4 :: x5 :: x6 :: x7 :: x8 :: x9 :: x10 :: x11 :: x12 :: x13 :: x14 :: x15 :: x16 :: x17 :: x18 :: x19 :: x20 :: x21 :: x22 :: x23 :: some (.own p) :: l) := Eq.trans rfl rfl
theorem k_var_sh25 {x0 x1 x2 x3 x4 x5 x6 x7 x8 x9 x10 x11 x12 x13 x14 x15 x16 x17 x18 x19 x20 x21 x22 x23 x24 : Option Sl} {p : PV} {l : PEnv} : (ev F (.var 25) (x0 :: x1 :: x2 :: x3 :: x4 :: x5 :: x6 :: x7 :: x8 :: x9 :: x10 :: x11 :: x12 :: x13 :: x14 :: x15 :: x16 :: x17 :: x18 :: x19 :: x20 :: x21 :: x22 :: x23 :: x24 :: some (.sh p) :: l)).bind k = k (.t (.sh p), x0 :: x1 :: x2 :: x3 :: x4 :: x5 :: x6 :: x7 :: x8 :: x9 :: x10 :: x11 :: x12 :: x13 :: x14 :: x15 :: x16 :: x17 :: x18 :: x19 :: x20 :: x21 :: x22 :: x23 :: x24 :: some (.sh p) :: l) := Eq.trans rfl rfl
theorem k_var_own25 {x0 x1 x2 x3 x4 x5 x6 x7 x8 x9 x10 x11 x12 x13 x14 x15 x16 x17 x18 x19 x20 x21 x22 x23 x24 : Option Sl} {p : List PV} {l : PEnv} : (ev F (.var 25) (x0 :: x1 :: x2 :: x3 :: x4 :: x5 :: x6 :: x7 :: x8 :: x9 :: x10 :: x11 :: x12 :: x13 :: x14 :: x15 :: x16 :: x17 :: x18 :: x19 :: x20 :: x21 :: x22 :: x23 :: x24 :: some (.own p) :: l)).bind k = k (.b 25, x0 :: x1 :: x2 :: x3 :: x4 :: x5 :: x6 :: x7 :: x8 :: x9 :: x10 :: x11 :: x12 :: x13 :: x14 :: x15 :: x16 :: x17 :: x18 :: x19 :: x20 :: x21 :: x22 :: x23 :: x24 :: some (.own p) :: l) := Eq.trans rfl rfl
end
theorem bind_as {α β γ : Type} (x : Option α) (f : α → Option β) (g : β → Option γ) : (x.bind f).bind g = x.bind fun a => (f a).bind g := by cases x <;> rfl
theorem map_as {α β γ : Type} (x : Option α) (f : α → β) (g : β → Option γ) : (x.map f).bind g = x.bind fun a => g (f a) := by cases x <;> rfl
section
variable {α : Type} {F : Fns} {env : PEnv} {k : Bw × PEnv → Option α}
theorem k_bin {op : Operator} {a b : E} : (ev F (.bin op a b) env).bind k = (ev F a env).bind fun r => (ev F b r.2).bind fun q => (pvb q.2 r.1).bind fun x => (pvb q.2 q.1).bind fun y => (bin2 op x y).bind fun z => k (.t z, q.2) := by simp only [ev, bind_as, map_as]
theorem k_cmp {op : CmpOp} {a b : E} : (ev F (.cmp op a b) env).bind k = (ev F a env).bind fun r => (ev F b r.2).bind fun q => (pvb q.2 r.1).bind fun x => (pvb q.2 q.1).bind fun y => (cmp2 op x y).bind fun z => k (.t (.sh (.bl z)), q.2) := by simp only [ev, bind_as, map_as]
def ifB {α : Type} (c : Bool) (a b : Option α) : Option α := if c then a else b
theorem ifB_t {a b : Option α} : ifB true a b = a := Eq.trans rfl rfl
theorem ifB_f {a b : Option α} : ifB false a b = b := Eq.trans rfl rfl
theorem k_chain {op op' : CmpOp} {a b c : E} : (ev F (.chain op op' a b c) env).bind k = (ev F a env).bind fun r => (ev F b r.2).bind fun q => (pvb q.2 r.1).bind fun x => (pvb q.2 q.1).bind fun y => (cmp2 op x y).bind fun z => ifB z ((ev F c q.2).bind fun w => (pvb w.2 q.1).bind fun y' => (pvb w.2 w.1).bind fun u => (cmp2 op' y' u).bind fun z' => k (.t (.sh (.bl z')), w.2)) (k (.t (.sh (.bl false)), q.2)) := by
  simp only [ev, bind_as, map_as]
  congr; funext r; congr; funext q; congr; funext x; congr; funext y; congr; funext z
  cases z
  · rfl
  · simp only [ifB, if_true, bind_as, map_as]
def boolK {α : Type} (p : PV) (f : Bool → Option α) : Option α := match p with | .bl b => f b | _ => none
def intK {α : Type} (p : PV) (f : Int → Option α) : Option α := match p with | .int b => f b | _ => none
theorem boolK_bl {b : Bool} {f : Bool → Option α} : boolK (.bl b) f = f b := Eq.trans rfl rfl
theorem intK_int {b : Int} {f : Int → Option α} : intK (.int b) f = f b := Eq.trans rfl rfl
theorem pvb_match {β : Type} {o : Option PV} {f : Bool → Option β} {r : Option β} (h : r = match o with | some (.bl b) => f b | _ => none) : r = o.bind fun p => boolK p f := by
  subst h
  cases o with
  | none => rfl
  | some p => cases p <;> rfl
theorem k_and {a b : E} : (ev F (.and a b) env).bind k = (ev F a env).bind fun r => (pvb r.2 r.1).bind fun p => boolK p fun c => ifB c ((ev F b r.2).bind k) (k (.t (.sh (.bl false)), r.2)) := by
  simp only [ev, bind_as]
  congr; funext r
  cases pvb r.2 r.1 with
  | none => rfl
  | some p => cases p <;> first | rfl | (rename_i c; cases c <;> rfl)
theorem k_or {a b : E} : (ev F (.or a b) env).bind k = (ev F a env).bind fun r => (pvb r.2 r.1).bind fun p => boolK p fun c => ifB c (k (.t (.sh (.bl true)), r.2)) ((ev F b r.2).bind k) := by
  simp only [ev, bind_as]
  congr; funext r
  cases pvb r.2 r.1 with
  | none => rfl
  | some p => cases p <;> first | rfl | (rename_i c; cases c <;> rfl)
theorem k_not {a : E} : (ev F (.not a) env).bind k = (ev F a env).bind fun r => (pvb r.2 r.1).bind fun p => boolK p fun c => k (.t (.sh (.bl (!c))), r.2) := by
  simp only [ev, bind_as]
  congr; funext r
  cases pvb r.2 r.1 with
  | none => rfl
  | some p => cases p <;> rfl
theorem k_neg {a : E} : (ev F (.neg a) env).bind k = (ev F a env).bind fun r => (pvb r.2 r.1).bind fun p => intK p fun c => k (.t (.sh (.int (-c))), r.2) := by
  simp only [ev, bind_as]
  congr; funext r
  cases pvb r.2 r.1 with
  | none => rfl
  | some p => cases p <;> rfl
theorem k_inv {a : E} : (ev F (.inv a) env).bind k = (ev F a env).bind fun r => (pvb r.2 r.1).bind fun p => intK p fun c => k (.t (.sh (.int (Builtin.bitNot c))), r.2) := by
  simp only [ev, bind_as]
  congr; funext r
  cases pvb r.2 r.1 with
  | none => rfl
  | some p => cases p <;> rfl
theorem k_ife {c : T} {a b : E} : (ev F (.ife c a b) env).bind k = (evT F c env).bind fun r => ifB r.1 ((ev F a r.2).bind k) ((ev F b r.2).bind k) := by
  simp only [ev, bind_as]
  congr; funext r
  obtain ⟨c, e⟩ := r
  cases c <;> rfl
theorem k_ix {a b : E} : (ev F (.ix a b) env).bind k = (ev F a env).bind fun r => (ev F b r.2).bind fun q => (pvb q.2 r.1).bind fun x => (pvb q.2 q.1).bind fun y => (ix2 x y).bind fun z => k (.t (.sh z), q.2) := by simp only [ev, bind_as, map_as]
theorem k_slc {a : E} {lo hi : O} : (ev F (.slc a lo hi) env).bind k = (ev F a env).bind fun r => (evO F lo r.2).bind fun l => (evO F hi l.2).bind fun h => (pvb h.2 r.1).bind fun x => (slc3 x l.1 h.1).bind fun z => k (.t z, h.2) := by simp only [ev, bind_as, map_as]
def limK {α : Type} (n : Nat) (a : Option α) : Option α := if n ≤ lim then a else none
theorem limK_le {n : Nat} {a : Option α} (h : n ≤ 16777216) : limK n a = a := if_pos h
theorem k_tup {es : Es} : (ev F (.tup es) env).bind k = (evs F es env).bind fun r => (fixs r.2 r.1).bind fun q => limK q.1.length (k (.t (.sh (.tup q.1)), q.2)) := by
  simp only [ev, bind_as]
  congr; funext r; congr; funext q
  unfold limK
  split <;> rfl
theorem k_lst {es : Es} : (ev F (.lst es) env).bind k = (evs F es env).bind fun r => (fixs r.2 r.1).bind fun q => limK q.1.length (k (.t (.own q.1), q.2)) := by
  simp only [ev, bind_as]
  congr; funext r; congr; funext q
  unfold limK
  split <;> rfl
def callK {α : Type} (s : Sl) (r : List Bw × PEnv) (k : Bw × PEnv → Option α) : Option α := if s.flat then k (.t s, r.2) else (fixs r.2 r.1).bind fun q => k (.t s, q.2)
theorem k_call {g : Nat} {es : Es} : (ev F (.call g es) env).bind k = (evs F es env).bind fun r => (pvbs r.2 r.1).bind fun ps => (F g ps).bind fun s => callK s r k := by
  simp only [ev, bind_as]
  congr; funext r; congr; funext ps; congr; funext s
  unfold callK
  split
  · rfl
  · rw [map_as]
theorem callK_1 {s s0 : Sl} : callK s ([.t s0], env) k = k (.t s, env) := by unfold callK; split <;> rfl
theorem callK_2 {s s0 s1 : Sl} : callK s ([.t s0, .t s1], env) k = k (.t s, env) := by unfold callK; split <;> rfl
theorem callK_3 {s s0 s1 s2 : Sl} : callK s ([.t s0, .t s1, .t s2], env) k = k (.t s, env) := by unfold callK; split <;> rfl
theorem callK_4 {s s0 s1 s2 s3 : Sl} : callK s ([.t s0, .t s1, .t s2, .t s3], env) k = k (.t s, env) := by unfold callK; split <;> rfl
theorem callK_5 {s s0 s1 s2 s3 s4 : Sl} : callK s ([.t s0, .t s1, .t s2, .t s3, .t s4], env) k = k (.t s, env) := by unfold callK; split <;> rfl
theorem callK_6 {s s0 s1 s2 s3 s4 s5 : Sl} : callK s ([.t s0, .t s1, .t s2, .t s3, .t s4, .t s5], env) k = k (.t s, env) := by unfold callK; split <;> rfl
theorem callK_7 {s s0 s1 s2 s3 s4 s5 s6 : Sl} : callK s ([.t s0, .t s1, .t s2, .t s3, .t s4, .t s5, .t s6], env) k = k (.t s, env) := by unfold callK; split <;> rfl
theorem callK_8 {s s0 s1 s2 s3 s4 s5 s6 s7 : Sl} : callK s ([.t s0, .t s1, .t s2, .t s3, .t s4, .t s5, .t s6, .t s7], env) k = k (.t s, env) := by unfold callK; split <;> rfl
theorem callK_Int {i : Int} {r : List Bw × PEnv} : callK (.sh (.int i)) r k = k (.t (.sh (.int i)), r.2) := Eq.trans rfl rfl
theorem callK_Bool {i : Bool} {r : List Bw × PEnv} : callK (.sh (.bl i)) r k = k (.t (.sh (.bl i)), r.2) := Eq.trans rfl rfl
theorem callK_Str {i : Str} {r : List Bw × PEnv} : callK (.sh (.str i)) r k = k (.t (.sh (.str i)), r.2) := Eq.trans rfl rfl
theorem callK_non {r : List Bw × PEnv} : callK (.sh .non) r k = k (.t (.sh .non), r.2) := Eq.trans rfl rfl
theorem callK_flat {s : Sl} {r : List Bw × PEnv} (h : s.flat = true) : callK s r k = k (.t s, r.2) := if_pos h
theorem k_blt {f : String} {es : Es} : (ev F (.blt f es) env).bind k = (evs F es env).bind fun r => (pvbs r.2 r.1).bind fun ps => (blt2 f ps).bind fun s => k (.t s, r.2) := by simp only [ev, bind_as, map_as]
theorem k_isi {a : E} {t : String} : (ev F (.isi a t) env).bind k = (ev F a env).bind fun r => (pvb r.2 r.1).bind fun x => (isi2 x t).bind fun z => k (.t (.sh (.bl z)), r.2) := by simp only [ev, bind_as, map_as]
theorem k_meth {m : String} {a b : E} : (ev F (.meth m a b) env).bind k = (ev F a env).bind fun r => (pvb r.2 r.1).bind fun x => (ev F b r.2).bind fun q => (pvb q.2 q.1).bind fun y => (meth2 m x y).bind fun z => k (.t z, q.2) := by simp only [ev, bind_as, map_as]
def shNs {α : Type} (env : PEnv) (vs : List Nat) (a : Option α) : Option α := if vs.all (shN env) then a else none
/-- a comprehension's turn -/
def turnC (F : Fns) (elt : E) (tg : Tg) (vs : List Nat) (cd : C) (p : PV) (e : PEnv) : Option (Option PV × PEnv) :=
  (bindT tg p e).bind fun e1 => (evC F cd e1).bind fun c => if c.1 then (ev F elt c.2).bind fun x => (fix x.2 x.1).map fun y => (some y.1, wipeE vs y.2) else some (none, wipeE vs c.2)
theorem turnC_eq {elt : E} {tg : Tg} {vs : List Nat} {cd : C} {p : PV} : turnC F elt tg vs cd p env = (bindT tg p env).bind fun e1 => (evC F cd e1).bind fun c => ifB c.1 ((ev F elt c.2).bind fun x => (fix x.2 x.1).bind fun y => some (some y.1, wipeE vs y.2)) (some (none, wipeE vs c.2)) := by
  unfold turnC
  congr; funext e1; congr; funext c
  obtain ⟨c, e⟩ := c
  cases c
  · rfl
  · show (ev F elt e).bind _ = (ev F elt e).bind _
    congr; funext x
    exact Option.map_eq_bind
def shN1 {α : Type} (o : Option Sl) (a : Option α) : Option α := match o with | some (.own _) => none | _ => a
theorem shN1_none {a : Option α} : shN1 none a = a := rfl
theorem shN1_sh {p : PV} {a : Option α} : shN1 (some (.sh p)) a = a := rfl
def notOwn (o : Option Sl) : Prop := ∀ xs, o ≠ some (.own xs)
theorem notOwn_none : notOwn none := fun _ h => by cases h
theorem notOwn_sh {p : PV} : notOwn (some (.sh p)) := fun _ h => by cases h
theorem shN1_ok {o : Option Sl} {a : Option α} (h : notOwn o) : shN1 o a = a := by
  cases o with
  | none => rfl
  | some s => cases s with
    | sh p => rfl
    | own xs => exact absurd rfl (h xs)
theorem shNs_nil {env : PEnv} {a : Option α} : shNs env [] a = a := rfl
theorem shNs_cons {env : PEnv} {i : Nat} {vs : List Nat} {a : Option α} : shNs env (i :: vs) a = shN1 (env.getD i none) (shNs env vs a) := by
  show (if (shN env i && vs.all (shN env)) = true then a else none) = shN1 (env.getD i none) (if vs.all (shN env) = true then a else none)
  unfold shN shN1
  cases env.getD i none with
  | none => rfl
  | some s => cases s <;> rfl
theorem wipe_nil {env : PEnv} : wipeE [] env = env := rfl
theorem wipe_cons {env : PEnv} {i : Nat} {vs : List Nat} : wipeE (i :: vs) env = (wipeE vs env).set i none := rfl
theorem back_nil {old env : PEnv} : backE old [] env = env := rfl
theorem back_cons {old env : PEnv} {i : Nat} {vs : List Nat} : backE old (i :: vs) env = (backE old vs env).set i (old.getD i none) := rfl
theorem k_comp {elt : E} {tg : Tg} {own : List (Str × Nat)} {it : I} {cd : C} : (ev F (.comp elt tg own it cd) env).bind k = (evI F it env).bind fun r => shNs r.2 (own.map (·.2)) ((compL (turnC F elt tg (own.map (·.2)) cd) r.1 (wipeE (own.map (·.2)) r.2) []).bind fun q => k (.t (.own q.1), backE r.2 (own.map (·.2)) (wipeE (own.map (·.2)) q.2))) := by
  simp only [ev, bind_as]
  congr; funext r
  unfold shNs
  split
  · rw [map_as]; rfl
  · rfl
end
section
variable {α : Type} {F : Fns} {env : PEnv}
theorem k_no {k : Option Int × PEnv → Option α} : (evO F .no env).bind k = k (none, env) := Eq.trans rfl rfl
theorem k_some {e : E} {k : Option Int × PEnv → Option α} : (evO F (.some e) env).bind k = (ev F e env).bind fun r => (pvb r.2 r.1).bind fun p => intK p fun i => k (some i, r.2) := by
  simp only [evO, bind_as]
  congr; funext r
  cases pvb r.2 r.1 with
  | none => rfl
  | some p => cases p <;> rfl
theorem k_yes {k : Bool × PEnv → Option α} : (evC F .yes env).bind k = k (true, env) := Eq.trans rfl rfl
theorem k_on {t : T} {k : Bool × PEnv → Option α} : (evC F (.on t) env).bind k = (evT F t env).bind k := Eq.trans rfl rfl
theorem k_nil {k : List Bw × PEnv → Option α} : (evs F .nil env).bind k = k ([], env) := Eq.trans rfl rfl
theorem k_cons {e : E} {es : Es} {k : List Bw × PEnv → Option α} : (evs F (.cons e es) env).bind k = (ev F e env).bind fun r => (evs F es r.2).bind fun q => k (r.1 :: q.1, q.2) := by simp only [evs, bind_as, map_as]
variable {k : Bool × PEnv → Option α}
theorem t_val {e : E} : (evT F (.val e) env).bind k = (ev F e env).bind fun r => (pvb r.2 r.1).bind fun x => (truth x).bind fun b => k (b, r.2) := by simp only [evT, bind_as, map_as]
theorem t_cmp {op : CmpOp} {a b : E} : (evT F (.cmp op a b) env).bind k = (ev F a env).bind fun r => (ev F b r.2).bind fun q => (pvb q.2 r.1).bind fun x => (pvb q.2 q.1).bind fun y => (cmp2 op x y).bind fun z => k (z, q.2) := by simp only [evT, bind_as, map_as]
theorem t_chain {op op' : CmpOp} {a b c : E} : (evT F (.chain op op' a b c) env).bind k = (ev F a env).bind fun r => (ev F b r.2).bind fun q => (pvb q.2 r.1).bind fun x => (pvb q.2 q.1).bind fun y => (cmp2 op x y).bind fun z => ifB z ((ev F c q.2).bind fun w => (pvb w.2 q.1).bind fun y' => (pvb w.2 w.1).bind fun u => (cmp2 op' y' u).bind fun z' => k (z', w.2)) (k (false, q.2)) := by
  simp only [evT, bind_as, map_as]
  congr; funext r; congr; funext q; congr; funext x; congr; funext y; congr; funext z
  cases z
  · rfl
  · simp only [ifB, if_true, bind_as, map_as]
theorem t_and {a b : T} : (evT F (.and a b) env).bind k = (evT F a env).bind fun r => ifB r.1 ((evT F b r.2).bind k) (k (false, r.2)) := by
  simp only [evT, bind_as]
  congr; funext r
  obtain ⟨c, e⟩ := r
  cases c <;> rfl
theorem t_or {a b : T} : (evT F (.or a b) env).bind k = (evT F a env).bind fun r => ifB r.1 (k (true, r.2)) ((evT F b r.2).bind k) := by
  simp only [evT, bind_as]
  congr; funext r
  obtain ⟨c, e⟩ := r
  cases c <;> rfl
theorem t_not {a : T} : (evT F (.not a) env).bind k = (evT F a env).bind fun r => k (!r.1, r.2) := by simp only [evT, map_as]
end
section
variable {α : Type} {F : Fns} {env : PEnv} {k : List PV × PEnv → Option α}
theorem i_val {e : E} : (evI F (.val e) env).bind k = (ev F e env).bind fun r => (fix r.2 r.1).bind fun q => (items1 q.1).bind fun xs => k (xs, q.2) := by simp only [evI, bind_as, map_as]
def inRK {α : Type} (j : Int) (a : Option α) : Option α := if inR j then a else none
theorem inRK_ok {j : Int} {a : Option α} (h0 : -(2 ^ 62) ≤ j) (h1 : j < 2 ^ 62) : inRK j a = a := if_pos (decide_eq_true ⟨h0, h1⟩)
theorem i_range1 {e : E} : (evI F (.range1 e) env).bind k = (ev F e env).bind fun r => (pvb r.2 r.1).bind fun p => intK p fun j => inRK j (k (rangeL 0 j.toNat, r.2)) := by
  simp only [evI, bind_as]
  congr; funext r
  cases pvb r.2 r.1 with
  | none => rfl
  | some p =>
    cases p <;> first | rfl | skip
    rename_i j
    show (if inR j then some (rangeL 0 j.toNat, r.2) else none).bind k = inRK j (k (rangeL 0 j.toNat, r.2))
    unfold inRK
    split <;> rfl
theorem i_range2 {a b : E} : (evI F (.range2 a b) env).bind k = (ev F a env).bind fun r => (ev F b r.2).bind fun q => (pvb q.2 r.1).bind fun p => intK p fun i => (pvb q.2 q.1).bind fun p' => intK p' fun j => inRK i (inRK j (k (rangeL i (j - i).toNat, q.2))) := by
  simp only [evI, bind_as]
  congr; funext r; congr; funext q
  cases pvb q.2 r.1 with
  | none => rfl
  | some p =>
    cases p <;> first | rfl | skip
    rename_i i
    cases pvb q.2 q.1 with
    | none => rfl
    | some p' =>
      cases p' <;> first | rfl | skip
      rename_i j
      show (if inR i && inR j then some (rangeL i (j - i).toNat, q.2) else none).bind k = inRK i (inRK j (k (rangeL i (j - i).toNat, q.2)))
      unfold inRK
      cases inR i <;> cases inR j <;> rfl
def lstK {α : Type} (p : PV) (f : List PV → Option α) : Option α := match p with | .lst b => f b | _ => none
theorem lstK_lst {b : List PV} {f : List PV → Option α} : lstK (.lst b) f = f b := Eq.trans rfl rfl
theorem i_enum {e : E} : (evI F (.enum e) env).bind k = (ev F e env).bind fun r => (fix r.2 r.1).bind fun q => lstK q.1 fun xs => k (enumL xs, q.2) := by
  simp only [evI, bind_as]
  congr; funext r; congr; funext q
  obtain ⟨p, e⟩ := q
  cases p <;> rfl
def seqK {α : Type} (p : PV) (f : List PV → Option α) : Option α := match p with | .lst b => f b | .tup b => f b | _ => none
theorem seqK_lst {b : List PV} {f : List PV → Option α} : seqK (.lst b) f = f b := Eq.trans rfl rfl
theorem seqK_tup {b : List PV} {f : List PV → Option α} : seqK (.tup b) f = f b := Eq.trans rfl rfl
theorem i_rev {e : E} : (evI F (.rev e) env).bind k = (ev F e env).bind fun r => (fix r.2 r.1).bind fun q => seqK q.1 fun xs => k (xs.reverse, q.2) := by
  simp only [evI, bind_as]
  congr; funext r; congr; funext q
  obtain ⟨p, e⟩ := q
  cases p <;> rfl
theorem i_zip {a b : E} : (evI F (.zip a b) env).bind k = (ev F a env).bind fun r => (ev F b r.2).bind fun q => (fix q.2 r.1).bind fun z => (fix z.2 q.1).bind fun z' => (zipL z.1 z'.1).bind fun xs => k (xs, z'.2) := by
  simp only [evI, bind_as, fixs, map_as]
  congr; funext r; congr; funext q; congr; funext z
  cases fix z.2 q.1 with
  | none => rfl
  | some z' => simp only [Option.map_some, Option.bind_some, map_as]
end
section
variable {α : Type} {env : PEnv}
theorem p_sh {p : PV} {k : PV → Option α} : (pvb env (.t (.sh p))).bind k = k p := Eq.trans rfl rfl
theorem p_own {p : List PV} {k : PV → Option α} : (pvb env (.t (.own p))).bind k = k (.lst p) := Eq.trans rfl rfl
theorem ps_nil {k : List PV → Option α} : (pvbs env []).bind k = k [] := Eq.trans rfl rfl
theorem ps_cons {x : Bw} {xs : List Bw} {k : List PV → Option α} : (pvbs env (x :: xs)).bind k = (pvb env x).bind fun p => (pvbs env xs).bind fun ps => k (p :: ps) := by simp only [pvbs, bind_as, map_as]
theorem f_sh {p : PV} {k : PV × PEnv → Option α} : (fix env (.t (.sh p))).bind k = k (p, env) := Eq.trans rfl rfl
theorem f_own {p : List PV} {k : PV × PEnv → Option α} : (fix env (.t (.own p))).bind k = k (.lst p, env) := Eq.trans rfl rfl
theorem fs_nil {k : List PV × PEnv → Option α} : (fixs env []).bind k = k ([], env) := Eq.trans rfl rfl
theorem fs_cons {x : Bw} {xs : List Bw} {k : List PV × PEnv → Option α} : (fixs env (x :: xs)).bind k = (fix env x).bind fun r => (fixs r.2 xs).bind fun q => k (r.1 :: q.1, q.2) := by simp only [fixs, bind_as, map_as]
theorem fo_t {s : Sl} {k : Sl × PEnv → Option α} : (fixO env (.t s)).bind k = k (s, env) := Eq.trans rfl rfl
theorem p_b_own0 {p : List PV} {l : PEnv} {k : PV → Option α} : (pvb (some (.own p) :: l) (.b 0)).bind k = k (.lst p) := Eq.trans rfl rfl
theorem p_b_sh0 {p : PV} {l : PEnv} {k : PV → Option α} : (pvb (some (.sh p) :: l) (.b 0)).bind k = k p := Eq.trans rfl rfl
theorem f_b0 {s : Sl} {l : PEnv} {k : PV × PEnv → Option α} : (fix (some s :: l) (.b 0)).bind k = k (s.pv, some (.sh s.pv) :: l) := Eq.trans rfl rfl
theorem fo_b0 {s : Sl} {l : PEnv} {k : Sl × PEnv → Option α} : (fixO (some s :: l) (.b 0)).bind k = k (.sh s.pv, some (.sh s.pv) :: l) := Eq.trans rfl rfl
theorem p_b_own1 {x0 : Option Sl} {p : List PV} {l : PEnv} {k : PV → Option α} : (pvb (x0 :: some (.own p) :: l) (.b 1)).bind k = k (.lst p) := Eq.trans rfl rfl
theorem p_b_sh1 {x0 : Option Sl} {p : PV} {l : PEnv} {k : PV → Option α} : (pvb (x0 :: some (.sh p) :: l) (.b 1)).bind k = k p := Eq.trans rfl rfl
theorem f_b1 {x0 : Option Sl} {s : Sl} {l : PEnv} {k : PV × PEnv → Option α} : (fix (x0 :: some s :: l) (.b 1)).bind k = k (s.pv, x0 :: some (.sh s.pv) :: l) := Eq.trans rfl rfl
theorem fo_b1 {x0 : Option Sl} {s : Sl} {l : PEnv} {k : Sl × PEnv → Option α} : (fixO (x0 :: some s :: l) (.b 1)).bind k = k (.sh s.pv, x0 :: some (.sh s.pv) :: l) := Eq.trans rfl rfl
theorem p_b_own2 {x0 x1 : Option Sl} {p : List PV} {l : PEnv} {k : PV → Option α} : (pvb (x0 :: x1 :: some (.own p) :: l) (.b 2)).bind k = k (.lst p) := Eq.trans rfl rfl
theorem p_b_sh2 {x0 x1 : Option Sl} {p : PV} {l : PEnv} {k : PV → Option α} : (pvb (x0 :: x1 :: some (.sh p) :: l) (.b 2)).bind k = k p := Eq.trans rfl rfl
theorem f_b2 {x0 x1 : Option Sl} {s : Sl} {l : PEnv} {k : PV × PEnv → Option α} : (fix (x0 :: x1 :: some s :: l) (.b 2)).bind k = k (s.pv, x0 :: x1 :: some (.sh s.pv) :: l) := Eq.trans rfl rfl
theorem fo_b2 {x0 x1 : Option Sl} {s : Sl} {l : PEnv} {k : Sl × PEnv → Option α} : (fixO (x0 :: x1 :: some s :: l) (.b 2)).bind k = k (.sh s.pv, x0 :: x1 :: some (.sh s.pv) :: l) := Eq.trans rfl rfl
theorem p_b_own3 {x0 x1 x2 : Option Sl} {p : List PV} {l : PEnv} {k : PV → Option α} : (pvb (x0 :: x1 :: x2 :: some (.own p) :: l) (.b 3)).bind k = k (.lst p) := Eq.trans rfl rfl
theorem p_b_sh3 {x0 x1 x2 : Option Sl} {p : PV} {l : PEnv} {k : PV → Option α} : (pvb (x0 :: x1 :: x2 :: some (.sh p) :: l) (.b 3)).bind k = k p := Eq.trans rfl rfl
theorem f_b3 {x0 x1 x2 : Option Sl} {s : Sl} {l : PEnv} {k : PV × PEnv → Option α} : (fix (x0 :: x1 :: x2 :: some s :: l) (.b 3)).bind k = k (s.pv, x0 :: x1 :: x2 :: some (.sh s.pv) :: l) := Eq.trans rfl rfl
theorem fo_b3 {x0 x1 x2 : Option Sl} {s : Sl} {l : PEnv} {k : Sl × PEnv → Option α} : (fixO (x0 :: x1 :: x2 :: some s :: l) (.b 3)).bind k = k (.sh s.pv, x0 :: x1 :: x2 :: some (.sh s.pv) :: l) := Eq.trans rfl rfl
theorem p_b_own4 {x0 x1 x2 x3 : Option Sl} {p : List PV} {l : PEnv} {k : PV → Option α} : (pvb (x0 :: x1 :: x2 :: x3 :: some (.own p) :: l) (.b 4)).bind k = k (.lst p) := Eq.trans rfl rfl
theorem p_b_sh4 {x0 x1 x2 x3 : Option Sl} {p : PV} {l : PEnv} {k : PV → Option α} : (pvb (x0 :: x1 :: x2 :: x3 :: some (.sh p) :: l) (.b 4)).bind k = k p := Eq.trans rfl rfl
theorem f_b4 {x0 x1 x2 x3 : Option Sl} {s : Sl} {l : PEnv} {k : PV × PEnv → Option α} : (fix (x0 :: x1 :: x2 :: x3 :: some s :: l) (.b 4)).bind k = k (s.pv, x0 :: x1 :: x2 :: x3 :: some (.sh s.pv) :: l) := Eq.trans rfl rfl
theorem fo_b4 {x0 x1 x2 x3 : Option Sl} {s : Sl} {l : PEnv} {k : Sl × PEnv → Option α} : (fixO (x0 :: x1 :: x2 :: x3 :: some s :: l) (.b 4)).bind k = k (.sh s.pv, x0 :: x1 :: x2 :: x3 :: some (.sh s.pv) :: l) := Eq.trans rfl rfl
theorem p_b_own5 {x0 x1 x2 x3 x4 : Option Sl} {p : List PV} {l : PEnv} {k : PV → Option α} : (pvb (x0 :: x1 :: x2 :: x3 :: x4 :: some (.own p) :: l) (.b 5)).bind k = k (.lst p) := Eq.trans rfl rfl
theorem p_b_sh5 {x0 x1 x2 x3 x4 : Option Sl} {p : PV} {l : PEnv} {k : PV → Option α} : (pvb (x0 :: x1 :: x2 :: x3 :: x4 :: some (.sh p) :: l) (.b 5)).bind k = k p := Eq.trans rfl rfl
theorem f_b5 {x0 x1 x2 x3 x4 : Option Sl} {s : Sl} {l : PEnv} {k : PV × PEnv → Option α} : (fix (x0 :: x1 :: x2 :: x3 :: x4 :: some s :: l) (.b 5)).bind k = k (s.pv, x0 :: x1 :: x2 :: x3 :: x4 :: some (.sh s.pv) :: l) := Eq.trans rfl rfl
theorem fo_b5 {x0 x1 x2 x3 x4 : Option Sl} {s : Sl} {l : PEnv} {k : Sl × PEnv → Option α} : (fixO (x0 :: x1 :: x2 :: x3 :: x4 :: some s :: l) (.b 5)).bind k = k (.sh s.pv, x0 :: x1 :: x2 :: x3 :: x4 :: some (.sh s.pv) :: l) := Eq.trans rfl rfl
theorem p_b_own6 {x0 x1 x2 x3 x4 x5 : Option Sl} {p : List PV} {l : PEnv} {k : PV → Option α} : (pvb (x0 :: x1 :: x2 :: x3 :: x4 :: x5 :: some (.own p) :: l) (.b 6)).bind k = k (.lst p) := Eq.trans rfl rfl
theorem p_b_sh6 {x0 x1 x2 x3 x4 x5 : Option Sl} {p : PV} {l : PEnv} {k : PV → Option α} : (pvb (x0 :: x1 :: x2 :: x3 :: x4 :: x5 :: some (.sh p) :: l) (.b 6)).bind k = k p := Eq.trans rfl rfl
theorem f_b6 {x0 x1 x2 x3 x4 x5 : Option Sl} {s : Sl} {l : PEnv} {k : PV × PEnv → Option α} : (fix (x0 :: x1 :: x2 :: x3 :: x4 :: x5 :: some s :: l) (.b 6)).bind k = k (s.pv, x0 :: x1 :: x2 :: x3 :: x4 :: x5 :: some (.sh s.pv) :: l) := Eq.trans rfl rfl
theorem fo_b6 {x0 x1 x2 x3 x4 x5 : Option Sl} {s : Sl} {l : PEnv} {k : Sl × PEnv → Option α} : (fixO (x0 :: x1 :: x2 :: x3 :: x4 :: x5 :: some s :: l) (.b 6)).bind k = k (.sh s.pv, x0 :: x1 :: x2 :: x3 :: x4 :: x5 :: some (.sh s.pv) :: l) := Eq.trans rfl rfl
theorem p_b_own7 {x0 x1 x2 x3 x4 x5 x6 : Option Sl} {p : List PV} {l : PEnv} {k : PV → Option α} : (pvb (x0 :: x1 :: x2 :: x3 :: x4 :: x5 :: x6 :: some (.own p) :: l) (.b 7)).bind k = k (.lst p) := Eq.trans rfl rfl
theorem p_b_sh7 {x0 x1 x2 x3 x4 x5 x6 : Option Sl} {p : PV} {l : PEnv} {k : PV → Option α} : (pvb (x0 :: x1 :: x2 :: x3 :: x4 :: x5 :: x6 :: some (.sh p) :: l) (.b 7)).bind k = k p := Eq.trans rfl rfl
theorem f_b7 {x0 x1 x2 x3 x4 x5 x6 : Option Sl} {s : Sl} {l : PEnv} {k : PV × PEnv → Option α} : (fix (x0 :: x1 :: x2 :: x3 :: x4 :: x5 :: x6 :: some s :: l) (.b 7)).bind k = k (s.pv, x0 :: x1 :: x2 :: x3 :: x4 :: x5 :: x6 :: some (.sh s.pv) :: l) := Eq.trans rfl rfl
theorem fo_b7 {x0 x1 x2 x3 x4 x5 x6 : Option Sl} {s : Sl} {l : PEnv} {k : Sl × PEnv → Option α} : (fixO (x0 :: x1 :: x2 :: x3 :: x4 :: x5 :: x6 :: some s :: l) (.b 7)).bind k = k (.sh s.pv, x0 :: x1 :: x2 :: x3 :: x4 :: x5 :: x6 :: some (.sh s.pv) :: l) := Eq.trans rfl rfl
theorem p_b_own8 {x0 x1 x2 x3 x4 x5 x6 x7 : Option Sl} {p : List PV} {l : PEnv} {k : PV → Option α} : (pvb (x0 :: x1 :: x2 :: x3 :: x4 :: x5 :: x6 :: x7 :: some (.own p) :: l) (.b 8)).bind k = k (.lst p) := Eq.trans rfl rfl
theorem p_b_sh8 {x0 x1 x2 x3 x4 x5 x6 x7 : Option Sl} {p : PV} {l : PEnv} {k : PV → Option α} : (pvb (x0 :: x1 :: x2 :: x3 :: x4 :: x5 :: x6 :: x7 :: some (.sh p) :: l) (.b 8)).bind k = k p := Eq.trans rfl rfl
theorem f_b8 {x0 x1 x2 x3 x4 x5 x6 x7 : Option Sl} {s : Sl} {l : PEnv} {k : PV × PEnv → Option α} : (fix (x0 :: x1 :: x2 :: x3 :: x4 :: x5 :: x6 :: x7 :: some s :: l) (.b 8)).bind k = k (s.pv, x0 :: x1 :: x2 :: x3 :: x4 :: x5 :: x6 :: x7 :: some (.sh s.pv) :: l) := Eq.trans rfl rfl
theorem fo_b8 {x0 x1 x2 x3 x4 x5 x6 x7 : Option Sl} {s : Sl} {l : PEnv} {k : Sl × PEnv → Option α} : (fixO (x0 :: x1 :: x2 :: x3 :: x4 :: x5 :: x6 :: x7 :: some s :: l) (.b 8)).bind k = k (.sh s.pv, x0 :: x1 :: x2 :: x3 :: x4 :: x5 :: x6 :: x7 :: some (.sh s.pv) :: l) := Eq.trans rfl rfl
theorem p_b_own9 {x0 x1 x2 x3 x4 x5 x6 x7 x8 : Option Sl} {p : List PV} {l : PEnv} {k : PV → Option α} : (pvb (x0 :: x1 :: x2 :: x3 :: x4 :: x5 :: x6 :: x7 :: x8 :: some (.own p) :: l) (.b 9)).bind k = k (.lst p) := Eq.trans rfl rfl
theorem p_b_sh9 {x0 x1 x2 x3 x4 x5 x6 x7 x8 : Option Sl} {p : PV} {l : PEnv} {k : PV → Option α} : (pvb (x0 :: x1 :: x2 :: x3 :: x4 :: x5 :: x6 :: x7 :: x8 :: some (.sh p) :: l) (.b 9)).bind k = k p := Eq.trans rfl rfl
theorem f_b9 {x0 x1 x2 x3 x4 x5 x6 x7 x8 : Option Sl} {s : Sl} {l : PEnv} {k : PV × PEnv → Option α} : (fix (x0 :: x1 :: x2 :: x3 :: x4 :: x5 :: x6 :: x7 :: x8 :: some s :: l) (.b 9)).bind k = k (s.pv, x0 :: x1 :: x2 :: x3 :: x4 :: x5 :: x6 :: x7 :: x8 :: some (.sh s.pv) :: l) := Eq.trans rfl rfl
theorem fo_b9 {x0 x1 x2 x3 x4 x5 x6 x7 x8 : Option Sl} {s : Sl} {l : PEnv} {k : Sl × PEnv → Option α} : (fixO (x0 :: x1 :: x2 :: x3 :: x4 :: x5 :: x6 :: x7 :: x8 :: some s :: l) (.b 9)).bind k = k (.sh s.pv, x0 :: x1 :: x2 :: x3 :: x4 :: x5 :: x6 :: x7 :: x8 :: some (.sh s.pv) :: l) := Eq.trans rfl rfl
theorem p_b_own10 {x0 x1 x2 x3 x4 x5 x6 x7 x8 x9 : Option Sl} {p : List PV} {l : PEnv} {k : PV → Option α} : (pvb (x0 :: x1 :: x2 :: x3 :: x4 :: x5 :: x6 :: x7 :: x8 :: x9 :: some (.own p) :: l) (.b 10)).bind k = k (.lst p) := Eq.trans rfl rfl
theorem p_b_sh10 {x0 x1 x2 x3 x4 x5 x6 x7 x8 x9 : Option Sl} {p : PV} {l : PEnv} {k : PV → Option α} : (pvb (x0 :: x1 :: x2 :: x3 :: x4 :: x5 :: x6 :: x7 :: x8 :: x9 :: some (.sh p) :: l) (.b 10)).bind k = k p := Eq.trans rfl rfl
theorem f_b10 {x0 x1 x2 x3 x4 x5 x6 x7 x8 x9 : Option Sl} {s : Sl} {l : PEnv} {k : PV × PEnv → Option α} : (fix (x0 :: x1 :: x2 :: x3 :: x4 :: x5 :: x6 :: x7 :: x8 :: x9 :: some s :: l) (.b 10)).bind k = k (s.pv, x0 :: x1 :: x2 :: x3 :: x4 :: x5 :: x6 :: x7 :: x8 :: x9 :: some (.sh s.pv) :: l) := Eq.trans rfl rfl
theorem fo_b10 {x0 x1 x2 x3 x4 x5 x6 x7 x8 x9 : Option Sl} {s : Sl} {l : PEnv} {k : Sl × PEnv → Option α} : (fixO (x0 :: x1 :: x2 :: x3 :: x4 :: x5 :: x6 :: x7 :: x8 :: x9 :: some s :: l) (.b 10)).bind k = k (.sh s.pv, x0 :: x1 :: x2 :: x3 :: x4 :: x5 :: x6 :: x7 :: x8 :: x9 :: some (.sh s.pv) :: l) := Eq.trans rfl rfl
theorem p_b_own11 {x0 x1 x2 x3 x4 x5 x6 x7 x8 x9 x10 : Option Sl} {p : List PV} {l : PEnv} {k : PV → Option α} : (pvb (x0 :: x1 :: x2 :: x3 :: x4 :: x5 :: x6 :: x7 :: x8 :: x9 :: x10 :: some (.own p) :: l) (.b 11)).bind k = k (.lst p) := Eq.trans rfl rfl
theorem p_b_sh11 {x0 x1 x2 x3 x4 x5 x6 x7 x8 x9 x10 : Option Sl} {p : PV} {l : PEnv} {k : PV → Option α} : (pvb (x0 :: x1 :: x2 :: x3 :: x4 :: x5 :: x6 :: x7 :: x8 :: x9 :: x10 :: some (.sh p) :: l) (.b 11)).bind k = k p := Eq.trans rfl rfl
theorem f_b11 {x0 x1 x2 x3 x4 x5 x6 x7 x8 x9 x10 : Option Sl} {s : Sl} {l : PEnv} {k : PV × PEnv → Option α} : (fix (x0 :: x1 :: x2 :: x3 :: x4 :: x5 :: x6 :: x7 :: x8 :: x9 :: x10 :: some s :: l) (.b 11)).bind k = k (s.pv, x0 :: x1 :: x2 :: x3 :: x4 :: x5 :: x6 :: x7 :: x8 :: x9 :: x10 :: some (.sh s.pv) :: l) := Eq.trans rfl rfl
theorem fo_b11 {x0 x1 x2 x3 x4 x5 x6 x7 x8 x9 x10 : Option Sl} {s : Sl} {l : PEnv} {k : Sl × PEnv → Option α} : (fixO (x0 :: x1 :: x2 :: x3 :: x4 :: x5 :: x6 :: x7 :: x8 :: x9 :: x10 :: some s :: l) (.b 11)).bind k = k (.sh s.pv, x0 :: x1 :: x2 :: x3 :: x4 :: x5 :: x6 :: x7 :: x8 :: x9 :: x10 :: some (.sh s.pv) :: l) := Eq.trans rfl rfl
theorem p_b_own12 {x0 x1 x2 x3 x4 x5 x6 x7 x8 x9 x10 x11 : Option Sl} {p : List PV} {l : PEnv} {k : PV → Option α} : (pvb (x0 :: x1 :: x2 :: x3 :: x4 :: x5 :: x6 :: x7 :: x8 :: x9 :: x10 :: x11 :: some (.own p) :: l) (.b 12)).bind k = k (.lst p) := Eq.trans rfl rfl
theorem p_b_sh12 {x0 x1 x2 x3 x4 x5 x6 x7 x8 x9 x10 x11 : Option Sl} {p : PV} {l : PEnv} {k : PV → Option α} : (pvb (x0 :: x1 :: x2 :: x3 :: x4 :: x5 :: x6 :: x7 :: x8 :: x9 :: x10 :: x11 :: some (.sh p) :: l) (.b 12)).bind k = k p := Eq.trans rfl rfl
theorem f_b12 {x0 x1 x2 x3 x4 x5 x6 x7 x8 x9 x10 x11 : Option Sl} {s : Sl} {l : PEnv} {k : PV × PEnv → Option α} : (fix (x0 :: x1 :: x2 :: x3 :: x4 :: x5 :: x6 :: x7 :: x8 :: x9 :: x10 :: x11 :: some s :: l) (.b 12)).bind k = k (s.pv, x0 :: x1 :: x2 :: x3 :: x4 :: x5 :: x6 :: x7 :: x8 :: x9 :: x10 :: x11 :: some (.sh s.pv) :: l) := Eq.trans rfl rfl
theorem fo_b12 {x0 x1 x2 x3 x4 x5 x6 x7 x8 x9 x10 x11 : Option Sl} {s : Sl} {l : PEnv} {k : Sl × PEnv → Option α} : (fixO (x0 :: x1 :: x2 :: x3 :: x4 :: x5 :: x6 :: x7 :: x8 :: x9 :: x10 :: x11 :: some s :: l) (.b 12)).bind k = k (.sh s.pv, x0 :: x1 :: x2 :: x3 :: x4 :: x5 :: x6 :: x7 :: x8 :: x9 :: x10 :: x11 :: some (.sh s.pv) :: l) := Eq.trans rfl rfl
theorem p_b_own13 {x0 x1 x2 x3 x4 x5 x6 x7 x8 x9 x10 x11 x12 : Option Sl} {p : List PV} {l : PEnv} {k : PV → Option α} : (pvb (x0 :: x1 :: x2 :: x3 :: x4 :: x5 :: x6 :: x7 :: x8 :: x9 :: x10 :: x11 :: x12 :: some (.own p) :: l) (.b 13)).bind k = k (.lst p) := Eq.trans rfl rfl
theorem p_b_sh13 {x0 x1 x2 x3 x4 x5 x6 x7 x8 x9 x10 x11 x12 : Option Sl} {p : PV} {l : PEnv} {k : PV → Option α} : (pvb (x0 :: x1 :: x2 :: x3 :: x4 :: x5 :: x6 :: x7 :: x8 :: x9 :: x10 :: x11 :: x12 :: some (.sh p) :: l) (.b 13)).bind k = k p := Eq.trans rfl rfl
theorem f_b13 {x0 x1 x2 x3 x4 x5 x6 x7 x8 x9 x10 x11 x12 : Option Sl} {s : Sl} {l : PEnv} {k : PV × PEnv → Option α} : (fix (x0 :: x1 :: x2 :: x3 :: x4 :: x5 :: x6 :: x7 :: x8 :: x9 :: x10 :: x11 :: x12 :: some s :: l) (.b 13)).bind k = k (s.pv, x0 :: x1 :: x2 :: x3 :: x4 :: x5 :: x6 :: x7 :: x8 :: x9 :: x10 :: x11 :: x12 :: some (.sh s.pv) :: l) := Eq.trans rfl rfl
theorem fo_b13 {x0 x1 x2 x3 x4 x5 x6 x7 x8 x9 x10 x11 x12 : Option Sl} {s : Sl} {l : PEnv} {k : Sl × PEnv → Option α} : (fixO (x0 :: x1 :: x2 :: x3 :: x4 :: x5 :: x6 :: x7 :: x8 :: x9 :: x10 :: x11 :: x12 :: some s :: l) (.b 13)).bind k = k (.sh s.pv, x0 :: x1 :: x2 :: x3 :: x4 :: x5 :: x6 :: x7 :: x8 :: x9 :: x10 :: x11 :: x12 :: some (.sh s.pv) :: l) := Eq.trans rfl rfl
theorem p_b_own14 {x0 x1 x2 x3 x4 x5 x6 x7 x8 x9 x10 x11 x12 x13 : Option Sl} {p : List PV} {l : PEnv} {k : PV → Option α} : (pvb (x0 :: x1 :: x2 :: x3 :: x4 :: x5 :: x6 :: x7 :: x8 :: x9 :: x10 :: x11 :: x12 :: x13 :: some (.own p) :: l) (.b 14)).bind k = k (.lst p) := Eq.trans rfl rfl
theorem p_b_sh14 {x0 x1 x2 x3 x4 x5 x6 x7 x8 x9 x10 x11 x12 x13 : Option Sl} {p : PV} {l : PEnv} {k : PV → Option α} : (pvb (x0 :: x1 :: x2 :: x3 :: x4 :: x5 :: x6 :: x7 :: x8 :: x9 :: x10 :: x11 :: x12 :: x13 :: some (.sh p) :: l) (.b 14)).bind k = k p := Eq.trans rfl rfl
theorem f_b14 {x0 x1 x2 x3 x4 x5 x6 x7 x8 x9 x10 x11 x12 x13 : Option Sl} {s : Sl} {l : PEnv} {k : PV × PEnv → Option α} : (fix (x0 :: x1 :: x2 :: x3 :: x4 :: x5 :: x6 :: x7 :: x8 :: x9 :: x10 :: x11 :: x12 :: x13 :: some s :: l) (.b 14)).bind k = k (s.pv, x0 :: x1 :: x2 :: x3 :: x4 :: x5 :: x6 :: x7 :: x8 :: x9 :: x10 :: x11 :: x12 :: x13 :: some (.sh s.pv) :: l) := Eq.trans rfl rfl
theorem fo_b14 {x0 x1 x2 x3 x4 x5 x6 x7 x8 x9 x10 x11 x12 x13 : Option Sl} {s : Sl} {l : PEnv} {k : Sl × PEnv → Option α} : (fixO (x0 :: x1 :: x2 :: x3 :: x4 :: x5 :: x6 :: x7 :: x8 :: x9 :: x10 :: x11 :: x12 :: x13 :: some s :: l) (.b 14)).bind k = k (.sh s.pv, x0 :: x1 :: x2 :: x3 :: x4 :: x5 :: x6 :: x7 :: x8 :: x9 :: x10 :: x11 :: x12 :: x13 :: some (.sh s.pv) :: l) := Eq.trans rfl rfl
theorem p_b_own15 {x0 x1 x2 x3 x4 x5 x6 x7 x8 x9 x10 x11 x12 x13 x14 : Option Sl} {p : List PV} {l : PEnv} {k : PV → Option α} : (pvb (x0 :: x1 :: x2 :: x3 :: x4 :: x5 :: x6 :: x7 :: x8 :: x9 :: x10 :: x11 :: x12 :: x13 :: x14 :: some (.own p) :: l) (.b 15)).bind k = k (.lst p) := Eq.trans rfl rfl
theorem p_b_sh15 {x0 x1 x2 x3 x4 x5 x6 x7 x8 x9 x10 x11 x12 x13 x14 : Option Sl} {p : PV} {l : PEnv} {k : PV → Option α} : (pvb (x0 :: x1 :: x2 :: x3 :: x4 :: x5 :: x6 :: x7 :: x8 :: x9 :: x10 :: x11 :: x12 :: x13 :: x14 :: some (.sh p) :: l) (.b 15)).bind k = k p := Eq.trans rfl rfl
theorem f_b15 {x0 x1 x2 x3 x4 x5 x6 x7 x8 x9 x10 x11 x12 x13 x14 : Option Sl} {s : Sl} {l : PEnv} {k : PV × PEnv → Option α} : (fix (x0 :: x1 :: x2 :: x3 :: x4 :: x5 :: x6 :: x7 :: x8 :: x9 :: x10 :: x11 :: x12 :: x13 :: x14 :: some s :: l) (.b 15)).bind k = k (s.pv, x0 :: x1 :: x2 :: x3 :: x4 :: x5 :: x6 :: x7 :: x8 :: x9 :: x10 :: x11 :: x12 :: x13 :: x14 :: some (.sh s.pv) :: l) := Eq.trans rfl rfl
theorem fo_b15 {x0 x1 x2 x3 x4 x5 x6 x7 x8 x9 x10 x11 x12 x13 x14 : Option Sl} {s : Sl} {l : PEnv} {k : Sl × PEnv → Option α} : (fixO (x0 :: x1 :: x2 :: x3 :: x4 :: x5 :: x6 :: x7 :: x8 :: x9 :: x10 :: x11 :: x12 :: x13 :: x14 :: some s :: l) (.b 15)).bind k = k (.sh s.pv, x0 :: x1 :: x2 :: x3 :: x4 :: x5 :: x6 :: x7 :: x8 :: x9 :: x10 :: x11 :: x12 :: x13 :: x14 :: some (.sh s.pv) :: l) := Eq.trans rfl rfl
theorem p_b_own16 {x0 x1 x2 x3 x4 x5 x6 x7 x8 x9 x10 x11 x12 x13 x14 x15 : Option Sl} {p : List PV} {l : PEnv} {k : PV → Option α} : (pvb (x0 :: x1 :: x2 :: x3 :: x4 :: x5 :: x6 :: x7 :: x8 :: x9 :: x10 :: x11 :: x12 :: x13 :: x14 :: x15 :: some (.own p) :: l) (.b 16)).bind k = k (.lst p) := Eq.trans rfl rfl
theorem p_b_sh16 {x0 x1 x2 x3 x4 x5 x6 x7 x8 x9 x10 x11 x12 x13 x14 x15 : Option Sl} {p : PV} {l : PEnv} {k : PV → Option α} : (pvb (x0 :: x1 :: x2 :: x3 :: x4 :: x5 :: x6 :: x7 :: x8 :: x9 :: x10 :: x11 :: x12 :: x13 :: x14 :: x15 :: some (.sh p) :: l) (.b 16)).bind k = k p := Eq.trans rfl rfl
theorem f_b16 {x0 x1 x2 x3 x4 x5 x6 x7 x8 x9 x10 x11 x12 x13 x14 x15 : Option Sl} {s : Sl} {l : PEnv} {k : PV × PEnv → Option α} : (fix (x0 :: x1 :: x2 :: x3 :: x4 :: x5 :: x6 :: x7 :: x8 :: x9 :: x10 :: x11 :: x12 :: x13 :: x14 :: x15 :: some s :: l) (.b 16)).bind k = k (s.pv, x0 :: x1 :: x2 :: x3 :: x4 :: x5 :: x6 :: x7 :: x8 :: x9 :: x10 :: x11 :: x12 :: x13 :: x14 :: x15 :: some (.sh s.pv) :: l) := Eq.trans rfl rfl
theorem fo_b16 {x0 x1 x2 x3 x4 x5 x6 x7 x8 x9 x10 x11 x12 x13 x14 x15 : Option Sl} {s : Sl} {l : PEnv} {k : Sl × PEnv → Option α} : (fixO (x0 :: x1 :: x2 :: x3 :: x4 :: x5 :: x6 :: x7 :: x8 :: x9 :: x10 :: x11 :: x12 :: x13 :: x14 :: x15 :: some s :: l) (.b 16)).bind k = k (.sh s.pv, x0 :: x1 :: x2 :: x3 :: x4 :: x5 :: x6 :: x7 :: x8 :: x9 :: x10 :: x11 :: x12 :: x13 :: x14 :: x15 :: some (.sh s.pv) :: l) := Eq.trans rfl rfl
theorem p_b_own17 {x0 x1 x2 x3 x4 x5 x6 x7 x8 x9 x10 x11 x12 x13 x14 x15 x16 : Option Sl} {p : List PV} {l : PEnv} {k : PV → Option α} : (pvb (x0 :: x1 :: x2 :: x3 :: x4 :: x5 :: x6 :: x7 :: x8 :: x9 :: x10 :: x11 :: x12 :: x13 :: x14 :: x15 :: x16 :: some (.own p) :: l) (.b 17)).bind k = k (.lst p) := Eq.trans rfl rfl
theorem p_b_sh17 {x0 x1 x2 x3 x4 x5 x6 x7 x8 x9 x10 x11 x12 x13 x14 x15 x16 : Option Sl} {p : PV} {l : PEnv} {k : PV → Option α} : (pvb (x0 :: x1 :: x2 :: x3 :: x4 :: x5 :: x6 :: x7 :: x8 :: x9 :: x10 :: x11 :: x12 :: x13 :: x14 :: x15 :: x16 :: some (.sh p) :: l) (.b 17)).bind k = k p := Eq.trans rfl rfl
theorem f_b17 {x0 x1 x2 x3 x4 x5 x6 x7 x8 x9 x10 x11 x12 x13 x14 x15 x16 : Option Sl} {s : Sl} {l : PEnv} {k : PV × PEnv → Option α} : (fix (x0 :: x1 :: x2 :: x3 :: x4 :: x5 :: x6 :: x7 :: x8 :: x9 :: x10 :: x11 :: x12 :: x13 :: x14 :: x15 :: x16 :: some s :: l) (.b 17)).bind k = k (s.pv, x0 :: x1 :: x2 :: x3 :: x4 :: x5 :: x6 :: x7 :: x8 :: x9 :: x10 :: x11 :: x12 :: x13 :: x14 :: x15 :: x16 :: some (.sh s.pv) :: l) := Eq.trans rfl rfl
theorem fo_b17 {x0 x1 x2 x3 x4 x5 x6 x7 x8 x9 x10 x11 x12 x13 x14 x15 x16 : Option Sl} {s : Sl} {l : PEnv} {k : Sl × PEnv → Option α} : (fixO (x0 :: x1 :: x2 :: x3 :: x4 :: x5 :: x6 :: x7 :: x8 :: x9 :: x10 :: x11 :: x12 :: x13 :: x14 :: x15 :: x16 :: some s :: l) (.b 17)).bind k = k (.sh s.pv, x0 :: x1 :: x2 :: x3 :: x4 :: x5 :: x6 :: x7 :: x8 :: x9 :: x10 :: x11 :: x12 :: x13 :: x14 :: x15 :: x16 :: some (.sh s.pv) :: l) := Eq.trans rfl rfl
theorem p_b_own18 {x0 x1 x2 x3 x4 x5 x6 x7 x8 x9 x10 x11 x12 x13 x14 x15 x16 x17 : Option Sl} {p : List PV} {l : PEnv} {k : PV → Option α} : (pvb (x0 :: x1 :: x2 :: x3 :: x4 :: x5 :: x6 :: x7 :: x8 :: x9 :: x10 :: x11 :: x12 :: x13 :: x14 :: x15 :: x16 :: x17 :: some (.own p) :: l) (.b 18)).bind k = k (.lst p) := Eq.trans rfl rfl
theorem p_b_sh18 {x0 x1 x2 x3 x4 x5 x6 x7 x8 x9 x10 x11 x12 x13 x14 x15 x16 x17 : Option Sl} {p : PV} {l : PEnv} {k : PV → Option α} : (pvb (x0 :: x1 :: x2 :: x3 :: x4 :: x5 :: x6 :: x7 :: x8 :: x9 :: x10 :: x11 :: x12 :: x13 :: x14 :: x15 :: x16 :: x17 :: some (.sh p) :: l) (.b 18)).bind k = k p := Eq.trans rfl rfl
theorem f_b18 {x0 x1 x2 x3 x4 x5 x6 x7 x8 x9 x10 x11 x12 x13 x14 x15 x16 x17 : Option Sl} {s : Sl} {l : PEnv} {k : PV × PEnv → Option α} : (fix (x0 :: x1 :: x2 :: x3 :: x4 :: x5 :: x6 :: x7 :: x8 :: x9 :: x10 :: x11 :: x12 :: x13 :: x14 :: x15 :: x16 :: x17 :: some s :: l) (.b 18)).bind k = k (s.pv, x0 :: x1 :: x2 :: x3 :: x4 :: x5 :: x6 :: x7 :: x8 :: x9 :: x10 :: x11 :: x12 :: x13 :: x14 :: x15 :: x16 :: x17 :: some (.sh s.pv) :: l) := Eq.trans rfl rfl
theorem fo_b18 {x0 x1 x2 x3 x4 x5 x6 x7 x8 x9 x10 x11 x12 x13 x14 x15 x16 x17 : Option Sl} {s : Sl} {l : PEnv} {k : Sl × PEnv → Option α} : (fixO (x0 :: x1 :: x2 :: x3 :: x4 :: x5 :: x6 :: x7 :: x8 :: x9 :: x10 :: x11 :: x12 :: x13 :: x14 :: x15 :: x16 :: x17 :: some s :: l) (.b 18)).bind k = k (.sh s.pv, x0 :: x1 :: x2 :: x3 :: x4 :: x5 :: x6 :: x7 :: x8 :: x9 :: x10 :: x11 :: x12 :: x13 :: x14 :: x15 :: x16 :: x17 :: some (.sh s.pv) :: l) := Eq.trans rfl rfl
theorem p_b_own19 {x0 x1 x2 x3 x4 x5 x6 x7 x8 x9 x10 x11 x12 x13 x14 x15 x16 x17 x18 : Option Sl} {p : List PV} {l : PEnv} {k : PV → Option α} : (pvb (x0 :: x1 :: x2 :: x3 :: x4 :: x5 :: x6 :: x7 :: x8 :: x9 :: x10 :: x11 :: x12 :: x13 :: x14 :: x15 :: x16 :: x17 :: x18 :: some (.own p) :: l) (.b 19)).bind k = k (.lst p) := Eq.trans rfl rfl
theorem p_b_sh19 {x0 x1 x2 x3 x4 x5 x6 x7 x8 x9 x10 x11 x12 x13 x14 x15 x16 x17 x18 : Option Sl} {p : PV} {l : PEnv} {k : PV → Option α} : (pvb (x0 :: x1 :: x2 :: x3 :: x4 :: x5 :: x6 :: x7 :: x8 :: x9 :: x10 :: x11 :: x12 :: x13 :: x14 :: x15 :: x16 :: x17 :: x18 :: some (.sh p) :: l) (.b 19)).bind k = k p := Eq.trans rfl rfl
theorem f_b19 {x0 x1 x2 x3 x4 x5 x6 x7 x8 x9 x10 x11 x12 x13 x14 x15 x16 x17 x18 : Option Sl} {s : Sl} {l : PEnv} {k : PV × PEnv → Option α} : (fix (x0 :: x1 :: x2 :: x3 :: x4 :: x5 :: x6 :: x7 :: x8 :: x9 :: x10 :: x11 :: x12 :: x13 :: x14 :: x15 :: x16 :: x17 :: x18 :: some s :: l) (.b 19)).bind k = k (s.pv, x0 :: x1 :: x2 :: x3 :: x4 :: x5 :: x6 :: x7 :: x8 :: x9 :: x10 :: x11 :: x12 :: x13 :: x14 :: x15 :: x16 :: x17 :: x18 :: some (.sh s.pv) :: l) := Eq.trans rfl rfl
theorem fo_b19 {x0 x1 x2 x3 x4 x5 x6 x7 x8 x9 x10 x11 x12 x13 x14 x15 x16 x17 x18 : Option Sl} {s : Sl} {l : PEnv} {k : Sl × PEnv → Option α} : (fixO (x0 :: x1 :: x2 :: x3 :: x4 :: x5 :: x6 :: x7 :: x8 :: x9 :: x10 :: x11 :: x12 :: x13 :: x14 :: x15 :: x16 :: x17 :: x18 :: some s :: l) (.b 19)).bind k = k (.sh s.pv, x0 :: x1 :: x2 :: x3 :: x4 :: x5 :: x6 :: x7 :: x8 :: x9 :: x10 :: x11 :: x12 :: x13 :: x14 :: x15 :: x16 :: x17 :: x18 :: some (.sh s.pv) :: l) := Eq.trans rfl rfl
theorem p_b_own20 {x0 x1 x2 x3 x4 x5 x6 x7 x8 x9 x10 x11 x12 x13 x14 x15 x16 x17 x18 x19 : Option Sl} {p : List PV} {l : PEnv} {k : PV → Option α} : (pvb (x0 :: x1 :: x2 :: x3 :: x4 :: x5 :: x6 :: x7 :: x8 :: x9 :: x10 :: x11 :: x12 :: x13 :: x14 :: x15 :: x16 :: x17 :: x18 :: x19 :: some (.own p) :: l) (.b 20)).bind k = k (.lst p) := Eq.trans rfl rfl
theorem p_b_sh20 {x0 x1 x2 x3 x4 x5 x6 x7 x8 x9 x10 x11 x12 x13 x14 x15 x16 x17 x18 x19 : Option Sl} {p : PV} {l : PEnv} {k : PV → Option α} : (pvb (x0 :: x1 :: x2 :: x3 :: x4 :: x5 :: x6 :: x7 :: x8 :: x9 :: x10 :: x11 :: x12 :: x13 :: x14 :: x15 :: x16 :: x17 :: x18 :: x19 :: some (.sh p) :: l) (.b 20)).bind k = k p := Eq.trans rfl rfl
theorem f_b20 {x0 x1 x2 x3 x4 x5 x6 x7 x8 x9 x10 x11 x12 x13 x14 x15 x16 x17 x18 x19 : Option Sl} {s : Sl} {l : PEnv} {k : PV × PEnv → Option α} : (fix (x0 :: x1 :: x2 :: x3 :: x4 :: x5 :: x6 :: x7 :: x8 :: x9 :: x10 :: x11 :: x12 :: x13 :: x14 :: x15 :: x16 :: x17 :: x18 :: x19 :: some s :: l) (.b 20)).bind k = k (s.pv, x0 :: x1 :: x2 :: x3 :: x4 :: x5 :: x6 :: x7 :: x8 :: x9 :: x10 :: x11 :: x12 :: x13 :: x14 :: x15 :: x16 :: x17 :: x18 :: x19 :: some (.sh s.pv) :: l) := Eq.trans rfl rfl
theorem fo_b20 {x0 x1 x2 x3 x4 x5 x6 x7 x8 x9 x10 x11 x12 x13 x14 x15 x16 x17 x18 x19 : Option Sl} {s : Sl} {l : PEnv} {k : Sl × PEnv → Option α} : (fixO (x0 :: x1 :: x2 :: x3 :: x4 :: x5 :: x6 :: x7 :: x8 :: x9 :: x10 :: x11 :: x12 :: x13 :: x14 :: x15 :: x16 :: x17 :: x18 :: x19 :: some s :: l) (.b 20)).bind k = k (.sh s.pv, x0 :: x1 :: x2 :: x3 :: x4 :: x5 :: x6 :: x7 :: x8 :: x9 :: x10 :: x11 :: x12 :: x13 :: x14 :: x15 :: x16 :: x17 :: x18 :: x19 :: some (.sh s.pv) :: l) := Eq.trans rfl rfl
theorem p_b_own21 {x0 x1 x2 x3 x4 x5 x6 x7 x8 x9 x10 x11 x12 x13 x14 x15 x16 x17 x18 x19 x20 : Option Sl} {p : List PV} {l : PEnv} {k : PV → Option α} : (pvb (x0 :: x1 :: x2 :: x3 :: x4 :: x5 :: x6 :: x7 :: x8 :: x9 :: x10 :: x11 :: x12 :: x13 :: x14 :: x15 :: x16 :: x17 :: x18 :: x19 :: x20 :: some (.own p) :: l) (.b 21)).bind k = k (.lst p) := Eq.trans rfl rfl
theorem p_b_sh21 {x0 x1 x2 x3 x4 x5 x6 x7 x8 x9 x10 x11 x12 x13 x14 x15 x16 x17 x18 x19 x20 : Option Sl} {p : PV} {l : PEnv} {k : PV → Option α} : (pvb (x0 :: x1 :: x2 :: x3 :: x4 :: x5 :: x6 :: x7 :: x8 :: x9 :: x10 :: x11 :: x12 :: x13 :: x14 :: x15 :: x16 :: x17 :: x18 :: x19 :: x20 :: some (.sh p) :: l) (.b 21)).bind k = k p := Eq.trans rfl rfl
theorem f_b21 {x0 x1 x2 x3 x4 x5 x6 x7 x8 x9 x10 x11 x12 x13 x14 x15 x16 x17 x18 x19 x20 : Option Sl} {s : Sl} {l : PEnv} {k : PV × PEnv → Option α} : (fix (x0 :: x1 :: x2 :: x3 :: x4 :: x5 :: x6 :: x7 :: x8 :: x9 :: x10 :: x11 :: x12 :: x13 :: x14 :: x15 :: x16 :: x17 :: x18 :: x19 :: x20 :: some s :: l) (.b 21)).bind k = k (s.pv, x0 :: x1 :: x2 :: x3 :: x4 :: x5 :: x6 :: x7 :: x8 :: x9 :: x10 :: x11 :: x12 :: x13 :: x14 :: x15 :: x16 :: x17 :: x18 :: x19 :: x20 :: some (.sh s.pv) :: l) := Eq.trans rfl rfl
theorem fo_b21 {x0 x1 x2 x3 x4 x5 x6 x7 x8 x9 x10 x11 x12 x13 x14 x15 x16 x17 x18 x19 x20 : Option Sl} {s : Sl} {l : PEnv} {k : Sl × PEnv → Option α} : (fixO (x0 :: x1 :: x2 :: x3 :: x4 :: x5 :: x6 :: x7 :: x8 :: x9 :: x10 :: x11 :: x12 :: x13 :: x14 :: x15 :: x16 :: x17 :: x18 :: x19 :: x20 :: some s :: l) (.b 21)).bind k = k (.sh s.pv, x0 :: x1 :: x2 :: x3 :: x4 :: x5 :: x6 :: x7 :: x8 :: x9 :: x10 :: x11 :: x12 :: x13 :: x14 :: x15 :: x16 :: x17 :: x18 :: x19 :: x20 :: some (.sh s.pv) :: l) := Eq.trans rfl rfl
theorem p_b_own22 {x0 x1 x2 x3 x4 x5 x6 x7 x8 x9 x10 x11 x12 x13 x14 x15 x16 x17 x18 x19 x20 x21 : Option Sl} {p : List PV} {l : PEnv} {k : PV → Option α} : (pvb (x0 :: x1 :: x2 :: x3 :: x4 :: x5 :: x6 :: x7 :: x8 :: x9 :: x10 :: x11 :: x12 :: x13 :: x14 :: x15 :: x16 :: x17 :: x18 :: x19 :: x20 :: x21 :: some (.own p) :: l) (.b 22)).bind k = k (.lst p) := Eq.trans rfl rfl
theorem p_b_sh22 {x0 x1 x2 x3 x4 x5 x6 x7 x8 x9 x10 x11 x12 x13 x14 x15 x16 x17 x18 x19 x20 x21 : Option Sl} {p : PV} {l : PEnv} {k : PV → Option α} : (pvb (x0 :: x1 :: x2 :: x3 :: x4 :: x5 :: x6 :: x7 :: x8 :: x9 :: x10 :: x11 :: x12 :: x13 :: x14 :: x15 :: x16 :: x17 :: x18 :: x19 :: x20 :: x21 :: some (.sh p) :: l) (.b 22)).bind k = k p := Eq.trans rfl rfl
theorem f_b22 {x0 x1 x2 x3 x4 x5 x6 x7 x8 x9 x10 x11 x12 x13 x14 x15 x16 x17 x18 x19 x20 x21 : Option Sl} {s : Sl} {l : PEnv} {k : PV × PEnv → Option α} : (fix (x0 :: x1 :: x2 :: x3 :: x4 :: x5 :: x6 :: x7 :: x8 :: x9 :: x10 :: x11 :: x12 :: x13 :: x14 :: x15 :: x16 :: x17 :: x18 :: x19 :: x20 :: x21 :: some s :: l) (.b 22)).bind k = k (s.pv, x0 :: x1 :: x2 :: x3 :: x4 :: x5 :: x6 :: x7 :: x8 :: x9 :: x10 :: x11 :: x12 :: x13 :: x14 :: x15 :: x16 :: x17 :: x18 :: x19 :: x20 :: x21 :: some (.sh s.pv) :: l) := Eq.trans rfl rfl
theorem fo_b22 {x0 x1 x2 x3 x4 x5 x6 x7 x8 x9 x10 x11 x12 x13 x14 x15 x16 x17 x18 x19 x20 x21 : Option Sl} {s : Sl} {l : PEnv} {k : Sl × PEnv → Option α} : (fixO (x0 :: x1 :: x2 :: x3 :: x4 :: x5 :: x6 :: x7 :: x8 :: x9 :: x10 :: x11 :: x12 :: x13 :: x14 :: x15 :: x16 :: x17 :: x18 :: x19 :: x20 :: x21 :: some s :: l) (.b 22)).bind k = k (.sh s.pv, x0 :: x1 :: x2 :: x3 :: x4 :: x5 :: x6 :: x7 :: x8 :: x9 :: x10 :: x11 :: x12 :: x13 :: x14 :: x15 :: x16 :: x17 :: x18 :: x19 :: x20 :: x21 :: some (.sh s.pv) :: l) := Eq.trans rfl rfl
theorem p_b_own23 {x0 x1 x2 x3 x4 x5 x6 x7 x8 x9 x10 x11 x12 x13 x14 x15 x16 x17 x18 x19 x20 x21 x22 : Option Sl} {p : List PV} {l : PEnv} {k : PV → Option α} : (pvb (x0 :: x1 :: x2 :: x3 :: x4 :: x5 :: x6 :: x7 :: x8 :: x9 :: x10 :: x11 :: x12 :: x13 :: x14 :: x15 :: x16 :: x17 :: x18 :: x19 :: x20 :: x21 :: x22 :: some (.own p) :: l) (.b 23)).bind k = k (.lst p) := Eq.trans rfl rfl
theorem p_b_sh23 {x0 x1 x2 x3 x4 x5 x6 x7 x8 x9 x10 x11 x12 x13 x14 x15 x16 x17 x18 x19 x20 x21 x22 : Option Sl} {p : PV} {l : PEnv} {k : PV → Option α} : (pvb (x0 :: x1 :: x2 :: x3 :: x4 :: x5 :: x6 :: x7 :: x8 :: x9 :: x10 :: x11 :: x12 :: x13 :: x14 :: x15 :: x16 :: x17 :: x18 :: x19 :: x20 :: x21 :: x22 :: some (.sh p) :: l) (.b 23)).bind k = k p := Eq.trans rfl rfl
theorem f_b23 {x0 x1 x2 x3 x4 x5 x6 x7 x8 x9 x10 x11 x12 x13 x14 x15 x16 x17 x18 x19 x20 x21 x22 : Option Sl} {s : Sl} {l : PEnv} {k : PV × PEnv → Option α} : (fix (x0 :: x1 :: x2 :: x3 :: x4 :: x5 :: x6 :: x7 :: x8 :: x9 :: x10 :: x11 :: x12 :: x13 :: x14 :: x15 :: x16 :: x17 :: x18 :: x19 :: x20 :: x21 :: x22 :: some s :: l) (.b 23)).bind k = k (s.pv, x0 :: x1 :: x2 :: x3 :: x4 :: x5 :: x6 :: x7 :: x8 :: x9 :: x10 :: x11 :: x12 :: x13 :: x14 :: x15 :: x16 :: x17 :: x18 :: x19 :: x20 :: x21 :: x22 :: some (.sh s.pv) :: l) := Eq.trans rfl rfl
theorem fo_b23 {x0 x1 x2 x3 x4 x5 x6 x7 x8 x9 x10 x11 x12 x13 x14 x15 x16 x17 x18 x19 x20 x21 x22 : Option Sl} {s : Sl} {l : PEnv} {k : Sl × PEnv → Option α} : (fixO (x0 :: x1 :: x2 :: x3 :: x4 :: x5 :: x6 :: x7 :: x8 :: x9 :: x10 :: x11 :: x12 :: x13 :: x14 :: x15 :: x16 :: x17 :: x18 :: x19 :: x20 :: x21 :: x22 :: some s :: l) (.b 23)).bind k = k (.sh s.pv, x0 :: x1 :: x2 :: x3 :: x4 :: x5 :: x6 :: x7 :: x8 :: x9 :: x10 :: x11 :: x12 :: x13 :: x14 :: x15 :: x16 :: x17 :: x18 :: x19 :: x20 :: x21 :: x22 :: some (.sh s.pv) :: l) := Eq.trans rfl rfl
theorem p_b_own24 {x0 x1 x2 x3 x4 x5 x6 x7 x8 x9 x10 x11 x12 x13 x14 x15 x16 x17 x18 x19 x20 x21 x22 x23 : Option Sl} {p : List PV} {l : PEnv} {k : PV → Option α} : (pvb (x0 :: x1 :: x2 :: x3 :: x4 :: x5 :: x6 :: x7 :: x8 :: x9 :: x10 :: x11 :: x12 :: x13 :: x14 :: x15 :: x16 :: x17 :: x18 :: x19 :: x20 :: x21 :: x22 :: x23 :: some (.own p) :: l) (.b 24)).bind k = k (.lst p) := Eq.trans rfl rfl
theorem p_b_sh24 {x0 x1 x2 x3 x4 x5 x6 x7 x8 x9 x10 x11 x12 x13 x14 x15 x16 x17 x18 x19 x20 x21 x22 x23 : Option Sl} {p : PV} {l : PEnv} {k : PV → Option α} : (pvb (x0 :: x1 :: x2 :: x3 :: x4 :: x5 :: x6 :: x7 :: x8 :: x9 :: x10 :: x11 :: x12 :: x13 :: x14 :: x15 :: x16 :: x17 :: x18 :: x19 :: x20 :: x21 :: x22 :: x23 :: some (.sh p) :: l) (.b 24)).bind k = k p := Eq.trans rfl rfl
theorem f_b24 {x0 x1 x2 x3 x4 x5 x6 x7 x8 x9 x10 x11 x12 x13 x14 x15 x16 x17 x18 x19 x20 x21 x22 x23 : Option Sl} {s : Sl} {l : PEnv} {k : PV × PEnv → Option α} : (fix (x0 :: x1 :: x2 :: x3 :: x4 :: x5 :: x6 :: x7 :: x8 :: x9 :: x10 :: x11 :: x12 :: x13 :: x14 :: x15 :: x16 :: x17 :: x18 :: x19 :: x20 :: x21 :: x22 :: x23 :: some s :: l) (.b 24)).bind k = k (s.pv, x0 :: x1 :: x2 :: x3 :: x4 :: x5 :: x6 :: x7 :: x8 :: x9 :: x10 :: x11 :: x12 :: x13 :: x14 :: x15 :: x16 :: x17 :: x18 :: x19 :: x20 :: x21 :: x22 :: x23 :: some (.sh s.pv) :: l) := Eq.trans rfl rfl
theorem fo_b24 {x0 x1 x2 x3 x4 x5 x6 x7 x8 x9 x10 x11 x12 x13 x14 x15 x16 x17 x18 x19 x20 x21 x22 x23 : Option Sl} {s : Sl} {l : PEnv} {k : Sl × PEnv → Option α} : (fixO (x0 :: x1 :: x2 :: x3 :: x4 :: x5 :: x6 :: x7 :: x8 :: x9 :: x10 :: x11 :: x12 :: x13 :: x14 :: x15 :: x16 :: x17 :: x18 :: x19 :: x20 :: x21 :: x22 :: x23 :: some s :: l) (.b 24)).bind k = k (.sh s.pv, x0 :: x1 :: x2 :: x3 :: x4 :: x5 :: x6 :: x7 :: x8 :: x9 :: x10 :: x11 :: x12 :: x13 :: x14 :: x15 :: x16 :: x17 :: x18 :: x19 :: x20 :: x21 :: x22 :: x23 :: some (.sh s.pv) :: l) := Eq.trans rfl rfl
theorem p_b_own25 {x0 x1 x2 x3 x4 x5 x6 x7 x8 x9 x10 x11 x12 x13 x14 x15 x16 x17 x18 x19 x20 x21 x22 x23 x24 : Option Sl} {p : List PV} {l : PEnv} {k : PV → Option α} : (pvb (x0 :: x1 :: x2 :: x3 :: x4 :: x5 :: x6 :: x7 :: x8 :: x9 :: x10 :: x11 :: x12 :: x13 :: x14 :: x15 :: x16 :: x17 :: x18 :: x19 :: x20 :: x21 :: x22 :: x23 :: x24 :: some (.own p) :: l) (.b 25)).bind k = k (.lst p) := Eq.trans rfl rfl
theorem p_b_sh25 {x0 x1 x2 x3 x4 x5 x6 x7 x8 x9 x10 x11 x12 x13 x14 x15 x16 x17 x18 x19 x20 x21 x22 x23 x24 : Option Sl} {p : PV} {l : PEnv} {k : PV → Option α} : (pvb (x0 :: x1 :: x2 :: x3 :: x4 :: x5 :: x6 :: x7 :: x8 :: x9 :: x10 :: x11 :: x12 :: x13 :: x14 :: x15 :: x16 :: x17 :: x18 :: x19 :: x20 :: x21 :: x22 :: x23 :: x24 :: some (.sh p) :: l) (.b 25)).bind k = k p := Eq.trans rfl rfl
theorem f_b25 {x0 x1 x2 x3 x4 x5 x6 x7 x8 x9 x10 x11 x12 x13 x14 x15 x16 x17 x18 x19 x20 x21 x22 x23 x24 : Option Sl} {s : Sl} {l : PEnv} {k : PV × PEnv → Option α} : (fix (x0 :: x1 :: x2 :: x3 :: x4 :: x5 :: x6 :: x7 :: x8 :: x9 :: x10 :: x11 :: x12 :: x13 :: x14 :: x15 :: x16 :: x17 :: x18 :: x19 :: x20 :: x21 :: x22 :: x23 :: x24 :: some s :: l) (.b 25)).bind k = k (s.pv, x0 :: x1 :: x2 :: x3 :: x4 :: x5 :: x6 :: x7 :: x8 :: x9 :: x10 :: x11 :: x12 :: x13 :: x14 :: x15 :: x16 :: x17 :: x18 :: x19 :: x20 :: x21 :: x22 :: x23 :: x24 :: some (.sh s.pv) :: l) := Eq.trans rfl rfl
theorem fo_b25 {x0 x1 x2 x3 x4 x5 x6 x7 x8 x9 x10 x11 x12 x13 x14 x15 x16 x17 x18 x19 x20 x21 x22 x23 x24 : Option Sl} {s : Sl} {l : PEnv} {k : Sl × PEnv → Option α} : (fixO (x0 :: x1 :: x2 :: x3 :: x4 :: x5 :: x6 :: x7 :: x8 :: x9 :: x10 :: x11 :: x12 :: x13 :: x14 :: x15 :: x16 :: x17 :: x18 :: x19 :: x20 :: x21 :: x22 :: x23 :: x24 :: some s :: l) (.b 25)).bind k = k (.sh s.pv, x0 :: x1 :: x2 :: x3 :: x4 :: x5 :: x6 :: x7 :: x8 :: x9 :: x10 :: x11 :: x12 :: x13 :: x14 :: x15 :: x16 :: x17 :: x18 :: x19 :: x20 :: x21 :: x22 :: x23 :: x24 :: some (.sh s.pv) :: l) := Eq.trans rfl rfl
theorem pv_sh {p : PV} : (Sl.sh p).pv = p := Eq.trans rfl rfl
theorem pv_own {p : List PV} : (Sl.own p).pv = .lst p := Eq.trans rfl rfl
variable {k : PEnv → Option α}
theorem bt_name0 {x0 : Option Sl} {p : PV} {l : PEnv} : (bindT (.name 0) p (x0 :: l)).bind k = k (some (.sh p) :: l) := Eq.trans rfl rfl
theorem sa_0 {x0 : Option Sl} {p : PV} {is : List Nat} {ps : List PV} {l : PEnv} : (setAll (0 :: is) (p :: ps) (x0 :: l)).bind k = (setAll is ps (some (.sh p) :: l)).bind k := Eq.trans rfl rfl
theorem bt_name1 {x0 x1 : Option Sl} {p : PV} {l : PEnv} : (bindT (.name 1) p (x0 :: x1 :: l)).bind k = k (x0 :: some (.sh p) :: l) := Eq.trans rfl rfl
theorem sa_1 {x0 x1 : Option Sl} {p : PV} {is : List Nat} {ps : List PV} {l : PEnv} : (setAll (1 :: is) (p :: ps) (x0 :: x1 :: l)).bind k = (setAll is ps (x0 :: some (.sh p) :: l)).bind k := Eq.trans rfl rfl
theorem bt_name2 {x0 x1 x2 : Option Sl} {p : PV} {l : PEnv} : (bindT (.name 2) p (x0 :: x1 :: x2 :: l)).bind k = k (x0 :: x1 :: some (.sh p) :: l) := Eq.trans rfl rfl
theorem sa_2 {x0 x1 x2 : Option Sl} {p : PV} {is : List Nat} {ps : List PV} {l : PEnv} : (setAll (2 :: is) (p :: ps) (x0 :: x1 :: x2 :: l)).bind k = (setAll is ps (x0 :: x1 :: some (.sh p) :: l)).bind k := Eq.trans rfl rfl
theorem bt_name3 {x0 x1 x2 x3 : Option Sl} {p : PV} {l : PEnv} : (bindT (.name 3) p (x0 :: x1 :: x2 :: x3 :: l)).bind k = k (x0 :: x1 :: x2 :: some (.sh p) :: l) := Eq.trans rfl rfl
theorem sa_3 {x0 x1 x2 x3 : Option Sl} {p : PV} {is : List Nat} {ps : List PV} {l : PEnv} : (setAll (3 :: is) (p :: ps) (x0 :: x1 :: x2 :: x3 :: l)).bind k = (setAll is ps (x0 :: x1 :: x2 :: some (.sh p) :: l)).bind k := Eq.trans rfl rfl
theorem bt_name4 {x0 x1 x2 x3 x4 : Option Sl} {p : PV} {l : PEnv} : (bindT (.name 4) p (x0 :: x1 :: x2 :: x3 :: x4 :: l)).bind k = k (x0 :: x1 :: x2 :: x3 :: some (.sh p) :: l) := Eq.trans rfl rfl
theorem sa_4 {x0 x1 x2 x3 x4 : Option Sl} {p : PV} {is : List Nat} {ps : List PV} {l : PEnv} : (setAll (4 :: is) (p :: ps) (x0 :: x1 :: x2 :: x3 :: x4 :: l)).bind k = (setAll is ps (x0 :: x1 :: x2 :: x3 :: some (.sh p) :: l)).bind k := Eq.trans rfl rfl
theorem bt_name5 {x0 x1 x2 x3 x4 x5 : Option Sl} {p : PV} {l : PEnv} : (bindT (.name 5) p (x0 :: x1 :: x2 :: x3 :: x4 :: x5 :: l)).bind k = k (x0 :: x1 :: x2 :: x3 :: x4 :: some (.sh p) :: l) := Eq.trans rfl rfl
theorem sa_5 {x0 x1 x2 x3 x4 x5 : Option Sl} {p : PV} {is : List Nat} {ps : List PV} {l : PEnv} : (setAll (5 :: is) (p :: ps) (x0 :: x1 :: x2 :: x3 :: x4 :: x5 :: l)).bind k = (setAll is ps (x0 :: x1 :: x2 :: x3 :: x4 :: some (.sh p) :: l)).bind k := Eq.trans rfl rfl
theorem bt_name6 {x0 x1 x2 x3 x4 x5 x6 : Option Sl} {p : PV} {l : PEnv} : (bindT (.name 6) p (x0 :: x1 :: x2 :: x3 :: x4 :: x5 :: x6 :: l)).bind k = k (x0 :: x1 :: x2 :: x3 :: x4 :: x5 :: some (.sh p) :: l) := Eq.trans rfl rfl
theorem sa_6 {x0 x1 x2 x3 x4 x5 x6 : Option Sl} {p : PV} {is : List Nat} {ps : List PV} {l : PEnv} : (setAll (6 :: is) (p :: ps) (x0 :: x1 :: x2 :: x3 :: x4 :: x5 :: x6 :: l)).bind k = (setAll is ps (x0 :: x1 :: x2 :: x3 :: x4 :: x5 :: some (.sh p) :: l)).bind k := Eq.trans rfl rfl
theorem bt_name7 {x0 x1 x2 x3 x4 x5 x6 x7 : Option Sl} {p : PV} {l : PEnv} : (bindT (.name 7) p (x0 :: x1 :: x2 :: x3 :: x4 :: x5 :: x6 :: x7 :: l)).bind k = k (x0 :: x1 :: x2 :: x3 :: x4 :: x5 :: x6 :: some (.sh p) :: l) := Eq.trans rfl rfl
theorem sa_7 {x0 x1 x2 x3 x4 x5 x6 x7 : Option Sl} {p : PV} {is : List Nat} {ps : List PV} {l : PEnv} : (setAll (7 :: is) (p :: ps) (x0 :: x1 :: x2 :: x3 :: x4 :: x5 :: x6 :: x7 :: l)).bind k = (setAll is ps (x0 :: x1 :: x2 :: x3 :: x4 :: x5 :: x6 :: some (.sh p) :: l)).bind k := Eq.trans rfl rfl
theorem bt_name8 {x0 x1 x2 x3 x4 x5 x6 x7 x8 : Option Sl} {p : PV} {l : PEnv} : (bindT (.name 8) p (x0 :: x1 :: x2 :: x3 :: x4 :: x5 :: x6 :: x7 :: x8 :: l)).bind k = k (x0 :: x1 :: x2 :: x3 :: x4 :: x5 :: x6 :: x7 :: some (.sh p) :: l) := Eq.trans rfl rfl
theorem sa_8 {x0 x1 x2 x3 x4 x5 x6 x7 x8 : Option Sl} {p : PV} {is : List Nat} {ps : List PV} {l : PEnv} : (setAll (8 :: is) (p :: ps) (x0 :: x1 :: x2 :: x3 :: x4 :: x5 :: x6 :: x7 :: x8 :: l)).bind k = (setAll is ps (x0 :: x1 :: x2 :: x3 :: x4 :: x5 :: x6 :: x7 :: some (.sh p) :: l)).bind k := Eq.trans rfl rfl
theorem bt_name9 {x0 x1 x2 x3 x4 x5 x6 x7 x8 x9 : Option Sl} {p : PV} {l : PEnv} : (bindT (.name 9) p (x0 :: x1 :: x2 :: x3 :: x4 :: x5 :: x6 :: x7 :: x8 :: x9 :: l)).bind k = k (x0 :: x1 :: x2 :: x3 :: x4 :: x5 :: x6 :: x7 :: x8 :: some (.sh p) :: l) := Eq.trans rfl rfl
theorem sa_9 {x0 x1 x2 x3 x4 x5 x6 x7 x8 x9 : Option Sl} {p : PV} {is : List Nat} {ps : List PV} {l : PEnv} : (setAll (9 :: is) (p :: ps) (x0 :: x1 :: x2 :: x3 :: x4 :: x5 :: x6 :: x7 :: x8 :: x9 :: l)).bind k = (setAll is ps (x0 :: x1 :: x2 :: x3 :: x4 :: x5 :: x6 :: x7 :: x8 :: some (.sh p) :: l)).bind k := Eq.trans rfl rfl
theorem bt_name10 {x0 x1 x2 x3 x4 x5 x6 x7 x8 x9 x10 : Option Sl} {p : PV} {l : PEnv} : (bindT (.name 10) p (x0 :: x1 :: x2 :: x3 :: x4 :: x5 :: x6 :: x7 :: x8 :: x9 :: x10 :: l)).bind k = k (x0 :: x1 :: x2 :: x3 :: x4 :: x5 :: x6 :: x7 :: x8 :: x9 :: some (.sh p) :: l) := Eq.trans rfl rfl
theorem sa_10 {x0 x1 x2 x3 x4 x5 x6 x7 x8 x9 x10 : Option Sl} {p : PV} {is : List Nat} {ps : List PV} {l : PEnv} : (setAll (10 :: is) (p :: ps) (x0 :: x1 :: x2 :: x3 :: x4 :: x5 :: x6 :: x7 :: x8 :: x9 :: x10 :: l)).bind k = (setAll is ps (x0 :: x1 :: x2 :: x3 :: x4 :: x5 :: x6 :: x7 :: x8 :: x9 :: some (.sh p) :: l)).bind k := Eq.trans rfl rfl
theorem bt_name11 {x0 x1 x2 x3 x4 x5 x6 x7 x8 x9 x10 x11 : Option Sl} {p : PV} {l : PEnv} : (bindT (.name 11) p (x0 :: x1 :: x2 :: x3 :: x4 :: x5 :: x6 :: x7 :: x8 :: x9 :: x10 :: x11 :: l)).bind k = k (x0 :: x1 :: x2 :: x3 :: x4 :: x5 :: x6 :: x7 :: x8 :: x9 :: x10 :: some (.sh p) :: l) := Eq.trans rfl rfl
theorem sa_11 {x0 x1 x2 x3 x4 x5 x6 x7 x8 x9 x10 x11 : Option Sl} {p : PV} {is : List Nat} {ps : List PV} {l : PEnv} : (setAll (11 :: is) (p :: ps) (x0 :: x1 :: x2 :: x3 :: x4 :: x5 :: x6 :: x7 :: x8 :: x9 :: x10 :: x11 :: l)).bind k = (setAll is ps (x0 :: x1 :: x2 :: x3 :: x4 :: x5 :: x6 :: x7 :: x8 :: x9 :: x10 :: some (.sh p) :: l)).bind k := Eq.trans rfl rfl
theorem bt_name12 {x0 x1 x2 x3 x4 x5 x6 x7 x8 x9 x10 x11 x12 : Option Sl} {p : PV} {l : PEnv} : (bindT (.name 12) p (x0 :: x1 :: x2 :: x3 :: x4 :: x5 :: x6 :: x7 :: x8 :: x9 :: x10 :: x11 :: x12 :: l)).bind k = k (x0 :: x1 :: x2 :: x3 :: x4 :: x5 :: x6 :: x7 :: x8 :: x9 :: x10 :: x11 :: some (.sh p) :: l) := Eq.trans rfl rfl
theorem sa_12 {x0 x1 x2 x3 x4 x5 x6 x7 x8 x9 x10 x11 x12 : Option Sl} {p : PV} {is : List Nat} {ps : List PV} {l : PEnv} : (setAll (12 :: is) (p :: ps) (x0 :: x1 :: x2 :: x3 :: x4 :: x5 :: x6 :: x7 :: x8 :: x9 :: x10 :: x11 :: x12 :: l)).bind k = (setAll is ps (x0 :: x1 :: x2 :: x3 :: x4 :: x5 :: x6 :: x7 :: x8 :: x9 :: x10 :: x11 :: some (.sh p) :: l)).bind k := Eq.trans rfl rfl
theorem bt_name13 {x0 x1 x2 x3 x4 x5 x6 x7 x8 x9 x10 x11 x12 x13 : Option Sl} {p : PV} {l : PEnv} : (bindT (.name 13) p (x0 :: x1 :: x2 :: x3 :: x4 :: x5 :: x6 :: x7 :: x8 :: x9 :: x10 :: x11 :: x12 :: x13 :: l)).bind k = k (x0 :: x1 :: x2 :: x3 :: x4 :: x5 :: x6 :: x7 :: x8 :: x9 :: x10 :: x11 :: x12 :: some (.sh p) :: l) := Eq.trans rfl rfl
theorem sa_13 {x0 x1 x2 x3 x4 x5 x6 x7 x8 x9 x10 x11 x12 x13 : Option Sl} {p : PV} {is : List Nat} {ps : List PV} {l : PEnv} : (setAll (13 :: is) (p :: ps) (x0 :: x1 :: x2 :: x3 :: x4 :: x5 :: x6 :: x7 :: x8 :: x9 :: x10 :: x11 :: x12 :: x13 :: l)).bind k = (setAll is ps (x0 :: x1 :: x2 :: x3 :: x4 :: x5 :: x6 :: x7 :: x8 :: x9 :: x10 :: x11 :: x12 :: some (.sh p) :: l)).bind k := Eq.trans rfl rfl
theorem bt_name14 {x0 x1 x2 x3 x4 x5 x6 x7 x8 x9 x10 x11 x12 x13 x14 : Option Sl} {p : PV} {l : PEnv} : (bindT (.name 14) p (x0 :: x1 :: x2 :: x3 :: x4 :: x5 :: x6 :: x7 :: x8 :: x9 :: x10 :: x11 :: x12 :: x13 :: x14 :: l)).bind k = k (x0 :: x1 :: x2 :: x3 :: x4 :: x5 :: x6 :: x7 :: x8 :: x9 :: x10 :: x11 :: x12 :: x13 :: some (.sh p) :: l) := Eq.trans rfl rfl
theorem sa_14 {x0 x1 x2 x3 x4 x5 x6 x7 x8 x9 x10 x11 x12 x13 x14 : Option Sl} {p : PV} {is : List Nat} {ps : List PV} {l : PEnv} : (setAll (14 :: is) (p :: ps) (x0 :: x1 :: x2 :: x3 :: x4 :: x5 :: x6 :: x7 :: x8 :: x9 :: x10 :: x11 :: x12 :: x13 :: x14 :: l)).bind k = (setAll is ps (x0 :: x1 :: x2 :: x3 :: x4 :: x5 :: x6 :: x7 :: x8 :: x9 :: x10 :: x11 :: x12 :: x13 :: some (.sh p) :: l)).bind k := Eq.trans rfl rfl
theorem bt_name15 {x0 x1 x2 x3 x4 x5 x6 x7 x8 x9 x10 x11 x12 x13 x14 x15 : Option Sl} {p : PV} {l : PEnv} : (bindT (.name 15) p (x0 :: x1 :: x2 :: x3 :: x4 :: x5 :: x6 :: x7 :: x8 :: x9 :: x10 :: x11 :: x12 :: x13 :: x14 :: x15 :: l)).bind k = k (x0 :: x1 :: x2 :: x3 :: x4 :: x5 :: x6 :: x7 :: x8 :: x9 :: x10 :: x11 :: x12 :: x13 :: x14 :: some (.sh p) :: l) := Eq.trans rfl rfl
theorem sa_15 {x0 x1 x2 x3 x4 x5 x6 x7 x8 x9 x10 x11 x12 x13 x14 x15 : Option Sl} {p : PV} {is : List Nat} {ps : List PV} {l : PEnv} : (setAll (15 :: is) (p :: ps) (x0 :: x1 :: x2 :: x3 :: x4 :: x5 :: x6 :: x7 :: x8 :: x9 :: x10 :: x11 :: x12 :: x13 :: x14 :: x15 :: l)).bind k = (setAll is ps (x0 :: x1 :: x2 :: x3 :: x4 :: x5 :: x6 :: x7 :: x8 :: x9 :: x10 :: x11 :: x12 :: x13 :: x14 :: some (.sh p) :: l)).bind k := Eq.trans rfl rfl
theorem bt_name16 {x0 x1 x2 x3 x4 x5 x6 x7 x8 x9 x10 x11 x12 x13 x14 x15 x16 : Option Sl} {p : PV} {l : PEnv} : (bindT (.name 16) p (x0 :: x1 :: x2 :: x3 :: x4 :: x5 :: x6 :: x7 :: x8 :: x9 :: x10 :: x11 :: x12 :: x13 :: x14 :: x15 :: x16 :: l)).bind k = k (x0 :: x1 :: x2 :: x3 :: x4 :: x5 :: x6 :: x7 :: x8 :: x9 :: x10 :: x11 :: x12 :: x13 :: x14 :: x15 :: some (.sh p) :: l) := Eq.trans rfl rfl
theorem sa_16 {x0 x1 x2 x3 x4 x5 x6 x7 x8 x9 x10 x11 x12 x13 x14 x15 x16 : Option Sl} {p : PV} {is : List Nat} {ps : List PV} {l : PEnv} : (setAll (16 :: is) (p :: ps) (x0 :: x1 :: x2 :: x3 :: x4 :: x5 :: x6 :: x7 :: x8 :: x9 :: x10 :: x11 :: x12 :: x13 :: x14 :: x15 :: x16 :: l)).bind k = (setAll is ps (x0 :: x1 :: x2 :: x3 :: x4 :: x5 :: x6 :: x7 :: x8 :: x9 :: x10 :: x11 :: x12 :: x13 :: x14 :: x15 :: some (.sh p) :: l)).bind k := Eq.trans rfl rfl
theorem bt_name17 {x0 x1 x2 x3 x4 x5 x6 x7 x8 x9 x10 x11 x12 x13 x14 x15 x16 x17 : Option Sl} {p : PV} {l : PEnv} : (bindT (.name 17) p (x0 :: x1 :: x2 :: x3 :: x4 :: x5 :: x6 :: x7 :: x8 :: x9 :: x10 :: x11 :: x12 :: x13 :: x14 :: x15 :: x16 :: x17 :: l)).bind k = k (x0 :: x1 :: x2 :: x3 :: x4 :: x5 :: x6 :: x7 :: x8 :: x9 :: x10 :: x11 :: x12 :: x13 :: x14 :: x15 :: x16 :: some (.sh p) :: l) := Eq.trans rfl rfl
theorem sa_17 {x0 x1 x2 x3 x4 x5 x6 x7 x8 x9 x10 x11 x12 x13 x14 x15 x16 x17 : Option Sl} {p : PV} {is : List Nat} {ps : List PV} {l : PEnv} : (setAll (17 :: is) (p :: ps) (x0 :: x1 :: x2 :: x3 :: x4 :: x5 :: x6 :: x7 :: x8 :: x9 :: x10 :: x11 :: x12 :: x13 :: x14 :: x15 :: x16 :: x17 :: l)).bind k = (setAll is ps (x0 :: x1 :: x2 :: x3 :: x4 :: x5 :: x6 :: x7 :: x8 :: x9 :: x10 :: x11 :: x12 :: x13 :: x14 :: x15 :: x16 :: some (.sh p) :: l)).bind k := Eq.trans rfl rfl
theorem bt_name18 {x0 x1 x2 x3 x4 x5 x6 x7 x8 x9 x10 x11 x12 x13 x14 x15 x16 x17 x18 : Option Sl} {p : PV} {l : PEnv} : (bindT (.name 18) p (x0 :: x1 :: x2 :: x3 :: x4 :: x5 :: x6 :: x7 :: x8 :: x9 :: x10 :: x11 :: x12 :: x13 :: x14 :: x15 :: x16 :: x17 :: x18 :: l)).bind k = k (x0 :: x1 :: x2 :: x3 :: x4 :: x5 :: x6 :: x7 :: x8 :: x9 :: x10 :: x11 :: x12 :: x13 :: x14 :: x15 :: x16 :: x17 :: some (.sh p) :: l) := Eq.trans rfl rfl
theorem sa_18 {x0 x1 x2 x3 x4 x5 x6 x7 x8 x9 x10 x11 x12 x13 x14 x15 x16 x17 x18 : Option Sl} {p : PV} {is : List Nat} {ps : List PV} {l : PEnv} : (setAll (18 :: is) (p :: ps) (x0 :: x1 :: x2 :: x3 :: x4 :: x5 :: x6 :: x7 :: x8 :: x9 :: x10 :: x11 :: x12 :: x13 :: x14 :: x15 :: x16 :: x17 :: x18 :: l)).bind k = (setAll is ps (x0 :: x1 :: x2 :: x3 :: x4 :: x5 :: x6 :: x7 :: x8 :: x9 :: x10 :: x11 :: x12 :: x13 :: x14 :: x15 :: x16 :: x17 :: some (.sh p) :: l)).bind k := Eq.trans rfl rfl
theorem bt_name19 {x0 x1 x2 x3 x4 x5 x6 x7 x8 x9 x10 x11 x12 x13 x14 x15 x16 x17 x18 x19 : Option Sl} {p : PV} {l : PEnv} : (bindT (.name 19) p (x0 :: x1 :: x2 :: x3 :: x4 :: x5 :: x6 :: x7 :: x8 :: x9 :: x10 :: x11 :: x12 :: x13 :: x14 :: x15 :: x16 :: x17 :: x18 :: x19 :: l)).bind k = k (x0 :: x1 :: x2 :: x3 :: x4 :: x5 :: x6 :: x7 :: x8 :: x9 :: x10 :: x11 :: x12 :: x13 :: x14 :: x15 :: x16 :: x17 :: x18 :: some (.sh p) :: l) := Eq.trans rfl rfl
theorem sa_19 {x0 x1 x2 x3 x4 x5 x6 x7 x8 x9 x10 x11 x12 x13 x14 x15 x16 x17 x18 x19 : Option Sl} {p : PV} {is : List Nat} {ps : List PV} {l : PEnv} : (setAll (19 :: is) (p :: ps) (x0 :: x1 :: x2 :: x3 :: x4 :: x5 :: x6 :: x7 :: x8 :: x9 :: x10 :: x11 :: x12 :: x13 :: x14 :: x15 :: x16 :: x17 :: x18 :: x19 :: l)).bind k = (setAll is ps (x0 :: x1 :: x2 :: x3 :: x4 :: x5 :: x6 :: x7 :: x8 :: x9 :: x10 :: x11 :: x12 :: x13 :: x14 :: x15 :: x16 :: x17 :: x18 :: some (.sh p) :: l)).bind k := Eq.trans rfl rfl
theorem bt_name20 {x0 x1 x2 x3 x4 x5 x6 x7 x8 x9 x10 x11 x12 x13 x14 x15 x16 x17 x18 x19 x20 : Option Sl} {p : PV} {l : PEnv} : (bindT (.name 20) p (x0 :: x1 :: x2 :: x3 :: x4 :: x5 :: x6 :: x7 :: x8 :: x9 :: x10 :: x11 :: x12 :: x13 :: x14 :: x15 :: x16 :: x17 :: x18 :: x19 :: x20 :: l)).bind k = k (x0 :: x1 :: x2 :: x3 :: x4 :: x5 :: x6 :: x7 :: x8 :: x9 :: x10 :: x11 :: x12 :: x13 :: x14 :: x15 :: x16 :: x17 :: x18 :: x19 :: some (.sh p) :: l) := Eq.trans rfl rfl
theorem sa_20 {x0 x1 x2 x3 x4 x5 x6 x7 x8 x9 x10 x11 x12 x13 x14 x15 x16 x17 x18 x19 x20 : Option Sl} {p : PV} {is : List Nat} {ps : List PV} {l : PEnv} : (setAll (20 :: is) (p :: ps) (x0 :: x1 :: x2 :: x3 :: x4 :: x5 :: x6 :: x7 :: x8 :: x9 :: x10 :: x11 :: x12 :: x13 :: x14 :: x15 :: x16 :: x17 :: x18 :: x19 :: x20 :: l)).bind k = (setAll is ps (x0 :: x1 :: x2 :: x3 :: x4 :: x5 :: x6 :: x7 :: x8 :: x9 :: x10 :: x11 :: x12 :: x13 :: x14 :: x15 :: x16 :: x17 :: x18 :: x19 :: some (.sh p) :: l)).bind k := Eq.trans rfl rfl
theorem bt_name21 {x0 x1 x2 x3 x4 x5 x6 x7 x8 x9 x10 x11 x12 x13 x14 x15 x16 x17 x18 x19 x20 x21 : Option Sl} {p : PV} {l : PEnv} : (bindT (.name 21) p (x0 :: x1 :: x2 :: x3 :: x4 :: x5 :: x6 :: x7 :: x8 :: x9 :: x10 :: x11 :: x12 :: x13 :: x14 :: x15 :: x16 :: x17 :: x18 :: x19 :: x20 :: x21 :: l)).bind k = k (x0 :: x1 :: x2 :: x3 :: x4 :: x5 :: x6 :: x7 :: x8 :: x9 :: x10 :: x11 :: x12 :: x13 :: x14 :: x15 :: x16 :: x17 :: x18 :: x19 :: x20 :: some (.sh p) :: l) := Eq.trans rfl rfl
theorem sa_21 {x0 x1 x2 x3 x4 x5 x6 x7 x8 x9 x10 x11 x12 x13 x14 x15 x16 x17 x18 x19 x20 x21 : Option Sl} {p : PV} {is : List Nat} {ps : List PV} {l : PEnv} : (setAll (21 :: is) (p :: ps) (x0 :: x1 :: x2 :: x3 :: x4 :: x5 :: x6 :: x7 :: x8 :: x9 :: x10 :: x11 :: x12 :: x13 :: x14 :: x15 :: x16 :: x17 :: x18 :: x19 :: x20 :: x21 :: l)).bind k = (setAll is ps (x0 :: x1 :: x2 :: x3 :: x4 :: x5 :: x6 :: x7 :: x8 :: x9 :: x10 :: x11 :: x12 :: x13 :: x14 :: x15 :: x16 :: x17 :: x18 :: x19 :: x20 :: some (.sh p) :: l)).bind k := Eq.trans rfl rfl
theorem bt_name22 {x0 x1 x2 x3 x4 x5 x6 x7 x8 x9 x10 x11 x12 x13 x14 x15 x16 x17 x18 x19 x20 x21 x22 : Option Sl} {p : PV} {l : PEnv} : (bindT (.name 22) p (x0 :: x1 :: x2 :: x3 :: x4 :: x5 :: x6 :: x7 :: x8 :: x9 :: x10 :: x11 :: x12 :: x13 :: x14 :: x15 :: x16 :: x17 :: x18 :: x19 :: x20 :: x21 :: x22 :: l)).bind k = k (x0 :: x1 :: x2 :: x3 :: x4 :: x5 :: x6 :: x7 :: x8 :: x9 :: x10 :: x11 :: x12 :: x13 :: x14 :: x15 :: x16 :: x17 :: x18 :: x19 :: x20 :: x21 :: some (.sh p) :: l) := Eq.trans rfl rfl
theorem sa_22 {x0 x1 x2 x3 x4 x5 x6 x7 x8 x9 x10 x11 x12 x13 x14 x15 x16 x17 x18 x19 x20 x21 x22 : Option Sl} {p : PV} {is : List Nat} {ps : List PV} {l : PEnv} : (setAll (22 :: is) (p :: ps) (x0 :: x1 :: x2 :: x3 :: x4 :: x5 :: x6 :: x7 :: x8 :: x9 :: x10 :: x11 :: x12 :: x13 :: x14 :: x15 :: x16 :: x17 :: x18 :: x19 :: x20 :: x21 :: x22 :: l)).bind k = (setAll is ps (x0 :: x1 :: x2 :: x3 :: x4 :: x5 :: x6 :: x7 :: x8 :: x9 :: x10 :: x11 :: x12 :: x13 :: x14 :: x15 :: x16 :: x17 :: x18 :: x19 :: x20 :: x21 :: some (.sh p) :: l)).bind k := Eq.trans rfl rfl
theorem bt_name23 {x0 x1 x2 x3 x4 x5 x6 x7 x8 x9 x10 x11 x12 x13 x14 x15 x16 x17 x18 x19 x20 x21 x22 x23 : Option Sl} {p : PV} {l : PEnv} : (bindT (.name 23) p (x0 :: x1 :: x2 :: x3 :: x4 :: x5 :: x6 :: x7 :: x8 :: x9 :: x10 :: x11 :: x12 :: x13 :: x14 :: x15 :: x16 :: x17 :: x18 :: x19 :: x20 :: x21 :: x22 :: x23 :: l)).bind k = k (x0 :: x1 :: x2 :: x3 :: x4 :: x5 :: x6 :: x7 :: x8 :: x9 :: x10 :: x11 :: x12 :: x13 :: x14 :: x15 :: x16 :: x17 :: x18 :: x19 :: x20 :: x21 :: x22 :: some (.sh p) :: l) := Eq.trans rfl rfl
theorem sa_23 {x0 x1 x2 x3 x4 x5 x6 x7 x8 x9 x10 x11 x12 x13 x14 x15 x16 x17 x18 x19 x20 x21 x22 x23 : Option Sl} {p : PV} {is : List Nat} {ps : List PV} {l : PEnv} : (setAll (23 :: is) (p :: ps) (x0 :: x1 :: x2 :: x3 :: x4 :: x5 :: x6 :: x7 :: x8 :: x9 :: x10 :: x11 :: x12 :: x13 :: x14 :: x15 :: x16 :: x17 :: x18 :: x19 :: x20 :: x21 :: x22 :: x23 :: l)).bind k = (setAll is ps (x0 :: x1 :: x2 :: x3 :: x4 :: x5 :: x6 :: x7 :: x8 :: x9 :: x10 :: x11 :: x12 :: x13 :: x14 :: x15 :: x16 :: x17 :: x18 :: x19 :: x20 :: x21 :: x22 :: some (.sh p) :: l)).bind k := Eq.trans rfl rfl
theorem bt_name24 {x0 x1 x2 x3 x4 x5 x6 x7 x8 x9 x10 x11 x12 x13 x14 x15 x16 x17 x18 x19 x20 x21 x22 x23 x24 : Option Sl} {p : PV} {l : PEnv} : (bindT (.name 24) p (x0 :: x1 :: x2 :: x3 :: x4 :: x5 :: x6 :: x7 :: x8 :: x9 :: x10 :: x11 :: x12 :: x13 :: x14 :: x15 :: x16 :: x17 :: x18 :: x19 :: x20 :: x21 :: x22 :: x23 :: x24 :: l)).bind k = k (x0 :: x1 :: x2 :: x3 :: x4 :: x5 :: x6 :: x7 :: x8 :: x9 :: x10 :: x11 :: x12 :: x13 :: x14 :: x15 :: x16 :: x17 :: x18 :: x19 :: x20 :: x21 :: x22 :: x23 :: some (.sh p) :: l) := Eq.trans rfl rfl
theorem sa_24 {x0 x1 x2 x3 x4 x5 x6 x7 x8 x9 x10 x11 x12 x13 x14 x15 x16 x17 x18 x19 x20 x21 x22 x23 x24 : Option Sl} {p : PV} {is : List Nat} {ps : List PV} {l : PEnv} : (setAll (24 :: is) (p :: ps) (x0 :: x1 :: x2 :: x3 :: x4 :: x5 :: x6 :: x7 :: x8 :: x9 :: x10 :: x11 :: x12 :: x13 :: x14 :: x15 :: x16 :: x17 :: x18 :: x19 :: x20 :: x21 :: x22 :: x23 :: x24 :: l)).bind k = (setAll is ps (x0 :: x1 :: x2 :: x3 :: x4 :: x5 :: x6 :: x7 :: x8 :: x9 :: x10 :: x11 :: x12 :: x13 :: x14 :: x15 :: x16 :: x17 :: x18 :: x19 :: x20 :: x21 :: x22 :: x23 :: some (.sh p) :: l)).bind k := Eq.trans rfl rfl
theorem bt_name25 {x0 x1 x2 x3 x4 x5 x6 x7 x8 x9 x10 x11 x12 x13 x14 x15 x16 x17 x18 x19 x20 x21 x22 x23 x24 x25 : Option Sl} {p : PV} {l : PEnv} : (bindT (.name 25) p (x0 :: x1 :: x2 :: x3 :: x4 :: x5 :: x6 :: x7 :: x8 :: x9 :: x10 :: x11 :: x12 :: x13 :: x14 :: x15 :: x16 :: x17 :: x18 :: x19 :: x20 :: x21 :: x22 :: x23 :: x24 :: x25 :: l)).bind k = k (x0 :: x1 :: x2 :: x3 :: x4 :: x5 :: x6 :: x7 :: x8 :: x9 :: x10 :: x11 :: x12 :: x13 :: x14 :: x15 :: x16 :: x17 :: x18 :: x19 :: x20 :: x21 :: x22 :: x23 :: x24 :: some (.sh p) :: l) := Eq.trans rfl rfl
theorem sa_25 {x0 x1 x2 x3 x4 x5 x6 x7 x8 x9 x10 x11 x12 x13 x14 x15 x16 x17 x18 x19 x20 x21 x22 x23 x24 x25 : Option Sl} {p : PV} {is : List Nat} {ps : List PV} {l : PEnv} : (setAll (25 :: is) (p :: ps) (x0 :: x1 :: x2 :: x3 :: x4 :: x5 :: x6 :: x7 :: x8 :: x9 :: x10 :: x11 :: x12 :: x13 :: x14 :: x15 :: x16 :: x17 :: x18 :: x19 :: x20 :: x21 :: x22 :: x23 :: x24 :: x25 :: l)).bind k = (setAll is ps (x0 :: x1 :: x2 :: x3 :: x4 :: x5 :: x6 :: x7 :: x8 :: x9 :: x10 :: x11 :: x12 :: x13 :: x14 :: x15 :: x16 :: x17 :: x18 :: x19 :: x20 :: x21 :: x22 :: x23 :: x24 :: some (.sh p) :: l)).bind k := Eq.trans rfl rfl
theorem sa_end {env : PEnv} : (setAll [] [] env).bind k = k env := Eq.trans rfl rfl
theorem bt_tup {is : List Nat} {ps : List PV} {env : PEnv} : (bindT (.tup is) (.tup ps) env).bind k = (setAll is ps env).bind k := Eq.trans rfl rfl
end
section
variable {α : Type}
theorem b_Add {i j : Int} {k : Sl → Option α} : (bin2 .Add (.int i) (.int j)).bind k = k (.sh (.int (i + j))) := Eq.trans rfl rfl
theorem b_Sub {i j : Int} {k : Sl → Option α} : (bin2 .Sub (.int i) (.int j)).bind k = k (.sh (.int (i - j))) := Eq.trans rfl rfl
theorem b_BitAnd {i j : Int} {k : Sl → Option α} : (bin2 .BitAnd (.int i) (.int j)).bind k = k (.sh (.int (Builtin.bitAnd i j))) := Eq.trans rfl rfl
theorem b_BitOr {i j : Int} {k : Sl → Option α} : (bin2 .BitOr (.int i) (.int j)).bind k = k (.sh (.int (Builtin.bitOr i j))) := Eq.trans rfl rfl
theorem b_BitXor {i j : Int} {k : Sl → Option α} : (bin2 .BitXor (.int i) (.int j)).bind k = k (.sh (.int (Builtin.bitXor i j))) := Eq.trans rfl rfl
def okK {α : Type} (c : Prop) [Decidable c] (a : Option α) : Option α := if c then a else none
theorem okK_ok {c : Prop} [Decidable c] {a : Option α} (h : c) : okK c a = a := if_pos h
theorem okK_iff {c d : Prop} [Decidable c] [Decidable d] {a : Option α} (h : c ↔ d) : okK c a = okK d a := by
  unfold okK
  by_cases q : c
  · rw [if_pos q, if_pos (h.mp q)]
  · rw [if_neg q, if_neg (fun z => q (h.mpr z))]
theorem b_Mult {i j : Int} {k : Sl → Option α} : (bin2 .Mult (.int i) (.int j)).bind k = okK ((-18446744073709551616 < i ∧ i < 18446744073709551616) ∨ (-18446744073709551616 < j ∧ j < 18446744073709551616)) (k (.sh (.int (i * j)))) := by
  have e : (bin2 .Mult (.int i) (.int j)).bind k = okK ((small i || small j) = true) (k (.sh (.int (i * j)))) := by
    show (if (small i || small j) = true then some (Sl.sh (.int (i * j))) else none).bind k = _
    unfold okK
    split <;> rfl
  rw [e]
  apply okK_iff
  simp only [small, Bool.or_eq_true, decide_eq_true_eq]; omega
theorem b_Mod {i j : Int} {k : Sl → Option α} : (bin2 .Mod (.int i) (.int j)).bind k = okK (j ≠ 0) (k (.sh (.int (i.fmod j)))) := by
  have e : (bin2 .Mod (.int i) (.int j)).bind k = okK (j ≠ 0) (k (.sh (.int (i.fmod j)))) := by
    show (if j ≠ 0 then some (Sl.sh (.int (i.fmod j))) else none).bind k = _
    unfold okK
    split <;> rfl
  rw [e]
theorem b_FloorDiv {i j : Int} {k : Sl → Option α} : (bin2 .FloorDiv (.int i) (.int j)).bind k = okK (j ≠ 0 ∧ -1073741824 < j ∧ j < 1073741824) (k (.sh (.int (i.fdiv j)))) := by
  have e : (bin2 .FloorDiv (.int i) (.int j)).bind k = okK (j ≠ 0 ∧ j.natAbs < 1073741824) (k (.sh (.int (i.fdiv j)))) := by
    show (if j ≠ 0 ∧ j.natAbs < 1073741824 then some (Sl.sh (.int (i.fdiv j))) else none).bind k = _
    unfold okK
    split <;> rfl
  rw [e]
  apply okK_iff
  omega
theorem b_Pow {i j : Int} {k : Sl → Option α} : (bin2 .Pow (.int i) (.int j)).bind k = okK (0 ≤ j ∧ j ≤ 1000000 ∧ -18446744073709551616 < i ∧ i < 18446744073709551616) (k (.sh (.int (i ^ j.toNat)))) := by
  have e : (bin2 .Pow (.int i) (.int j)).bind k = okK (0 ≤ j ∧ j ≤ 1000000 ∧ i.natAbs < 2 ^ 64) (k (.sh (.int (i ^ j.toNat)))) := by
    show (if 0 ≤ j ∧ j ≤ 1000000 ∧ i.natAbs < 2 ^ 64 then some (Sl.sh (.int (i ^ j.toNat))) else none).bind k = _
    unfold okK
    split <;> rfl
  rw [e]
  apply okK_iff
  omega
theorem b_LShift {i j : Int} {k : Sl → Option α} : (bin2 .LShift (.int i) (.int j)).bind k = okK (0 ≤ j ∧ j ≤ 1000000 ∧ -18446744073709551616 < i ∧ i < 18446744073709551616) (k (.sh (.int (i * 2 ^ j.toNat)))) := by
  have e : (bin2 .LShift (.int i) (.int j)).bind k = okK (0 ≤ j ∧ j ≤ 1000000 ∧ i.natAbs < 2 ^ 64) (k (.sh (.int (i * 2 ^ j.toNat)))) := by
    show (if 0 ≤ j ∧ j ≤ 1000000 ∧ i.natAbs < 2 ^ 64 then some (Sl.sh (.int (i * 2 ^ j.toNat))) else none).bind k = _
    unfold okK
    split <;> rfl
  rw [e]
  apply okK_iff
  omega
theorem b_RShift {i j : Int} {k : Sl → Option α} : (bin2 .RShift (.int i) (.int j)).bind k = okK (0 ≤ j) (k (.sh (.int (i / 2 ^ j.toNat)))) := by
  have e : (bin2 .RShift (.int i) (.int j)).bind k = okK (0 ≤ j) (k (.sh (.int (i / 2 ^ j.toNat)))) := by
    show (if 0 ≤ j then some (Sl.sh (.int (i / 2 ^ j.toNat))) else none).bind k = _
    unfold okK
    split <;> rfl
  rw [e]
theorem b_Add_str {s t : Str} {k : Sl → Option α} : (bin2 .Add (.str s) (.str t)).bind k = okK (s.length + t.length ≤ 16777216) (k (.sh (.str (s ++ t)))) := by
  show (if s.length + t.length ≤ 16777216 then some (Sl.sh (.str (s ++ t))) else none).bind k = _
  unfold okK
  split <;> rfl
theorem b_Add_lst {s t : List PV} {k : Sl → Option α} : (bin2 .Add (.lst s) (.lst t)).bind k = okK (s.length + t.length ≤ 16777216) (k (.own (s ++ t))) := by
  show (if s.length + t.length ≤ 16777216 then some (Sl.own (s ++ t)) else none).bind k = _
  unfold okK
  split <;> rfl
theorem b_Add_tup {s t : List PV} {k : Sl → Option α} : (bin2 .Add (.tup s) (.tup t)).bind k = okK (s.length + t.length ≤ 16777216) (k (.sh (.tup (s ++ t)))) := by
  show (if s.length + t.length ≤ 16777216 then some (Sl.sh (.tup (s ++ t))) else none).bind k = _
  unfold okK
  split <;> rfl
theorem c_Lt {i j : Int} {k : Bool → Option α} : (cmp2 .Lt (.int i) (.int j)).bind k = k (decide (i < j)) := Eq.trans rfl rfl
theorem c_LtE {i j : Int} {k : Bool → Option α} : (cmp2 .LtE (.int i) (.int j)).bind k = k (decide (i ≤ j)) := Eq.trans rfl rfl
theorem c_Gt {i j : Int} {k : Bool → Option α} : (cmp2 .Gt (.int i) (.int j)).bind k = k (decide (j < i)) := Eq.trans rfl rfl
theorem c_GtE {i j : Int} {k : Bool → Option α} : (cmp2 .GtE (.int i) (.int j)).bind k = k (decide (j ≤ i)) := Eq.trans rfl rfl
theorem c_Eq {i j : Int} {k : Bool → Option α} : (cmp2 .Eq (.int i) (.int j)).bind k = k (decide (i = j)) := Eq.trans rfl rfl
theorem c_NotEq {i j : Int} {k : Bool → Option α} : (cmp2 .NotEq (.int i) (.int j)).bind k = k (!decide (i = j)) := Eq.trans rfl rfl
theorem c_Eq_str {i j : Str} {k : Bool → Option α} : (cmp2 .Eq (.str i) (.str j)).bind k = k (decide (i = j)) := Eq.trans rfl rfl
theorem c_NotEq_str {i j : Str} {k : Bool → Option α} : (cmp2 .NotEq (.str i) (.str j)).bind k = k (!decide (i = j)) := Eq.trans rfl rfl
theorem c_Eq_bl {i j : Bool} {k : Bool → Option α} : (cmp2 .Eq (.bl i) (.bl j)).bind k = k (decide (i = j)) := Eq.trans rfl rfl
theorem c_NotEq_bl {i j : Bool} {k : Bool → Option α} : (cmp2 .NotEq (.bl i) (.bl j)).bind k = k (!decide (i = j)) := Eq.trans rfl rfl
theorem c_Eq_int_str {i : Int} {j : Str} {k : Bool → Option α} : (cmp2 .Eq (.int i) (.str j)).bind k = k false := Eq.trans rfl rfl
theorem c_NotEq_int_str {i : Int} {j : Str} {k : Bool → Option α} : (cmp2 .NotEq (.int i) (.str j)).bind k = k true := Eq.trans rfl rfl
theorem c_Eq_str_int {i : Str} {j : Int} {k : Bool → Option α} : (cmp2 .Eq (.str i) (.int j)).bind k = k false := Eq.trans rfl rfl
theorem c_NotEq_str_int {i : Str} {j : Int} {k : Bool → Option α} : (cmp2 .NotEq (.str i) (.int j)).bind k = k true := Eq.trans rfl rfl
theorem c_Eq_bl_str {i : Bool} {j : Str} {k : Bool → Option α} : (cmp2 .Eq (.bl i) (.str j)).bind k = k false := Eq.trans rfl rfl
theorem c_NotEq_bl_str {i : Bool} {j : Str} {k : Bool → Option α} : (cmp2 .NotEq (.bl i) (.str j)).bind k = k true := Eq.trans rfl rfl
theorem c_Eq_str_bl {i : Str} {j : Bool} {k : Bool → Option α} : (cmp2 .Eq (.str i) (.bl j)).bind k = k false := Eq.trans rfl rfl
theorem c_NotEq_str_bl {i : Str} {j : Bool} {k : Bool → Option α} : (cmp2 .NotEq (.str i) (.bl j)).bind k = k true := Eq.trans rfl rfl
theorem c_Eq_int_non {i : Int} {k : Bool → Option α} : (cmp2 .Eq (.int i) .non).bind k = k false := Eq.trans rfl rfl
theorem c_NotEq_int_non {i : Int} {k : Bool → Option α} : (cmp2 .NotEq (.int i) .non).bind k = k true := Eq.trans rfl rfl
theorem c_Eq_str_non {i : Str} {k : Bool → Option α} : (cmp2 .Eq (.str i) .non).bind k = k false := Eq.trans rfl rfl
theorem c_NotEq_str_non {i : Str} {k : Bool → Option α} : (cmp2 .NotEq (.str i) .non).bind k = k true := Eq.trans rfl rfl
theorem c_Eq_bl_non {i : Bool} {k : Bool → Option α} : (cmp2 .Eq (.bl i) .non).bind k = k false := Eq.trans rfl rfl
theorem c_NotEq_bl_non {i : Bool} {k : Bool → Option α} : (cmp2 .NotEq (.bl i) .non).bind k = k true := Eq.trans rfl rfl
theorem c_Is_int {i : Int} {k : Bool → Option α} : (cmp2 .Is (.int i) .non).bind k = k false := Eq.trans rfl rfl
theorem c_IsNot_int {i : Int} {k : Bool → Option α} : (cmp2 .IsNot (.int i) .non).bind k = k true := Eq.trans rfl rfl
theorem c_Is_str {i : Str} {k : Bool → Option α} : (cmp2 .Is (.str i) .non).bind k = k false := Eq.trans rfl rfl
theorem c_IsNot_str {i : Str} {k : Bool → Option α} : (cmp2 .IsNot (.str i) .non).bind k = k true := Eq.trans rfl rfl
theorem c_Is_bl {i : Bool} {k : Bool → Option α} : (cmp2 .Is (.bl i) .non).bind k = k false := Eq.trans rfl rfl
theorem c_IsNot_bl {i : Bool} {k : Bool → Option α} : (cmp2 .IsNot (.bl i) .non).bind k = k true := Eq.trans rfl rfl
theorem c_Is_tup {i : List PV} {k : Bool → Option α} : (cmp2 .Is (.tup i) .non).bind k = k false := Eq.trans rfl rfl
theorem c_IsNot_tup {i : List PV} {k : Bool → Option α} : (cmp2 .IsNot (.tup i) .non).bind k = k true := Eq.trans rfl rfl
theorem c_Is_lst {i : List PV} {k : Bool → Option α} : (cmp2 .Is (.lst i) .non).bind k = k false := Eq.trans rfl rfl
theorem c_IsNot_lst {i : List PV} {k : Bool → Option α} : (cmp2 .IsNot (.lst i) .non).bind k = k true := Eq.trans rfl rfl
theorem c_Is_non {k : Bool → Option α} : (cmp2 .Is (.non) .non).bind k = k true := Eq.trans rfl rfl
theorem c_IsNot_non {k : Bool → Option α} : (cmp2 .IsNot (.non) .non).bind k = k false := Eq.trans rfl rfl
theorem c_In {p q : PV} {k : Bool → Option α} : (cmp2 .In p q).bind k = (in2 p q).bind k := Eq.trans rfl rfl
theorem c_NotIn {p q : PV} {k : Bool → Option α} : (cmp2 .NotIn p q).bind k = (in2 p q).bind fun b => k (!b) := by simp only [cmp2, map_as]
theorem tr_bl {b : Bool} {k : Bool → Option α} : (truth (.bl b)).bind k = k b := Eq.trans rfl rfl
theorem tr_int {b : Int} {k : Bool → Option α} : (truth (.int b)).bind k = k (!decide (b = 0)) := Eq.trans rfl rfl
theorem tr_lst {b : List PV} {k : Bool → Option α} : (truth (.lst b)).bind k = k (decide (0 < b.length)) := by cases b <;> rfl
theorem tr_tup {b : List PV} {k : Bool → Option α} : (truth (.tup b)).bind k = k (decide (0 < b.length)) := by cases b <;> rfl
theorem tr_non {k : Bool → Option α} : (truth .non).bind k = k false := Eq.trans rfl rfl
theorem x_lst {xs : List PV} {i : Int} {k : PV → Option α} : (ix2 (.lst xs) (.int i)).bind k = (atI xs i).bind k := Eq.trans rfl rfl
theorem x_tup {xs : List PV} {i : Int} {k : PV → Option α} : (ix2 (.tup xs) (.int i)).bind k = (atI xs i).bind k := Eq.trans rfl rfl
theorem at_0 {x0 : PV} {l : List PV} {k : PV → Option α} : (atI (x0 :: l) 0).bind k = k x0 := by
  have h : atI (x0 :: l) (0 : Int) = some x0 := by
    unfold atI ixN
    rw [if_pos (by decide), if_pos (by simp only [List.length_cons]; omega)]
    rfl
  rw [h]; rfl
theorem at_1 {x0 x1 : PV} {l : List PV} {k : PV → Option α} : (atI (x0 :: x1 :: l) 1).bind k = k x1 := by
  have h : atI (x0 :: x1 :: l) (1 : Int) = some x1 := by
    unfold atI ixN
    rw [if_pos (by decide), if_pos (by simp only [List.length_cons]; omega)]
    rfl
  rw [h]; rfl
theorem at_2 {x0 x1 x2 : PV} {l : List PV} {k : PV → Option α} : (atI (x0 :: x1 :: x2 :: l) 2).bind k = k x2 := by
  have h : atI (x0 :: x1 :: x2 :: l) (2 : Int) = some x2 := by
    unfold atI ixN
    rw [if_pos (by decide), if_pos (by simp only [List.length_cons]; omega)]
    rfl
  rw [h]; rfl
theorem at_3 {x0 x1 x2 x3 : PV} {l : List PV} {k : PV → Option α} : (atI (x0 :: x1 :: x2 :: x3 :: l) 3).bind k = k x3 := by
  have h : atI (x0 :: x1 :: x2 :: x3 :: l) (3 : Int) = some x3 := by
    unfold atI ixN
    rw [if_pos (by decide), if_pos (by simp only [List.length_cons]; omega)]
    rfl
  rw [h]; rfl
theorem at_4 {x0 x1 x2 x3 x4 : PV} {l : List PV} {k : PV → Option α} : (atI (x0 :: x1 :: x2 :: x3 :: x4 :: l) 4).bind k = k x4 := by
  have h : atI (x0 :: x1 :: x2 :: x3 :: x4 :: l) (4 : Int) = some x4 := by
    unfold atI ixN
    rw [if_pos (by decide), if_pos (by simp only [List.length_cons]; omega)]
    rfl
  rw [h]; rfl
theorem at_5 {x0 x1 x2 x3 x4 x5 : PV} {l : List PV} {k : PV → Option α} : (atI (x0 :: x1 :: x2 :: x3 :: x4 :: x5 :: l) 5).bind k = k x5 := by
  have h : atI (x0 :: x1 :: x2 :: x3 :: x4 :: x5 :: l) (5 : Int) = some x5 := by
    unfold atI ixN
    rw [if_pos (by decide), if_pos (by simp only [List.length_cons]; omega)]
    rfl
  rw [h]; rfl
theorem at_6 {x0 x1 x2 x3 x4 x5 x6 : PV} {l : List PV} {k : PV → Option α} : (atI (x0 :: x1 :: x2 :: x3 :: x4 :: x5 :: x6 :: l) 6).bind k = k x6 := by
  have h : atI (x0 :: x1 :: x2 :: x3 :: x4 :: x5 :: x6 :: l) (6 : Int) = some x6 := by
    unfold atI ixN
    rw [if_pos (by decide), if_pos (by simp only [List.length_cons]; omega)]
    rfl
  rw [h]; rfl
theorem at_7 {x0 x1 x2 x3 x4 x5 x6 x7 : PV} {l : List PV} {k : PV → Option α} : (atI (x0 :: x1 :: x2 :: x3 :: x4 :: x5 :: x6 :: x7 :: l) 7).bind k = k x7 := by
  have h : atI (x0 :: x1 :: x2 :: x3 :: x4 :: x5 :: x6 :: x7 :: l) (7 : Int) = some x7 := by
    unfold atI ixN
    rw [if_pos (by decide), if_pos (by simp only [List.length_cons]; omega)]
    rfl
  rw [h]; rfl
theorem sl_lst {xs : List PV} {lo hi : Option Int} {k : Sl → Option α} : (slc3 (.lst xs) lo hi).bind k = k (.own (cutP xs lo hi)) := Eq.trans rfl rfl
theorem sl_tup {xs : List PV} {lo hi : Option Int} {k : Sl → Option α} : (slc3 (.tup xs) lo hi).bind k = k (.sh (.tup (cutP xs lo hi))) := Eq.trans rfl rfl
theorem bl_len_lst {xs : List PV} {k : Sl → Option α} : (blt2 "len" [.lst xs]).bind k = k (.sh (.int xs.length)) := Eq.trans rfl rfl
theorem bl_len_tup {xs : List PV} {k : Sl → Option α} : (blt2 "len" [.tup xs]).bind k = k (.sh (.int xs.length)) := Eq.trans rfl rfl
theorem bl_abs {i : Int} {k : Sl → Option α} : (blt2 "abs" [.int i]).bind k = k (.sh (.int (if i < 0 then -i else i))) := Eq.trans rfl rfl
theorem bl_max {i j : Int} {k : Sl → Option α} : (blt2 "max" [.int i, .int j]).bind k = k (.sh (.int (if j > i then j else i))) := Eq.trans rfl rfl
theorem bl_min {i j : Int} {k : Sl → Option α} : (blt2 "min" [.int i, .int j]).bind k = k (.sh (.int (if j < i then j else i))) := Eq.trans rfl rfl
theorem bl_int_int {i : Int} {k : Sl → Option α} : (blt2 "int" [.int i]).bind k = k (.sh (.int i)) := Eq.trans rfl rfl
theorem bl_int_bl {i : Bool} {k : Sl → Option α} : (blt2 "int" [.bl i]).bind k = k (.sh (.int (if i then 1 else 0))) := Eq.trans rfl rfl
theorem bl_list_lst {xs : List PV} {k : Sl → Option α} : (blt2 "list" [.lst xs]).bind k = k (.own xs) := Eq.trans rfl rfl
theorem bl_list_tup {xs : List PV} {k : Sl → Option α} : (blt2 "list" [.tup xs]).bind k = k (.own xs) := Eq.trans rfl rfl
theorem bl_tuple_lst {xs : List PV} {k : Sl → Option α} : (blt2 "tuple" [.lst xs]).bind k = k (.sh (.tup xs)) := Eq.trans rfl rfl
theorem bl_tuple_tup {xs : List PV} {k : Sl → Option α} : (blt2 "tuple" [.tup xs]).bind k = k (.sh (.tup xs)) := Eq.trans rfl rfl
theorem bl_sum {xs : List PV} {k : Sl → Option α} : (blt2 "sum" [.lst xs]).bind k = (asInts xs).bind fun ns => k (.sh (.int ns.sum)) := by
  show ((asInts xs).map _).bind k = _
  rw [map_as]
theorem bl_all {xs : List PV} {k : Sl → Option α} : (blt2 "all" [.lst xs]).bind k = (asBls xs).bind fun ns => k (.sh (.bl (ns.all id))) := by
  show ((asBls xs).map _).bind k = _
  rw [map_as]
theorem bl_any {xs : List PV} {k : Sl → Option α} : (blt2 "any" [.lst xs]).bind k = (asBls xs).bind fun ns => k (.sh (.bl (ns.any id))) := by
  show ((asBls xs).map _).bind k = _
  rw [map_as]
theorem bl_sorted {xs : List PV} {k : Sl → Option α} : (blt2 "sorted" [.lst xs]).bind k = (asInts xs).bind fun ns => k (.own ((isortI ns).map PV.int)) := by
  show ((asInts xs).map _).bind k = _
  rw [map_as]
theorem asInts_map (ns : List Int) : asInts (ns.map PV.int) = some ns := by
  induction ns with
  | nil => rfl
  | cons n ns ih => show (asInts (ns.map PV.int)).map _ = _; rw [ih]; rfl
theorem asBls_map (ns : List Bool) : asBls (ns.map PV.bl) = some ns := by
  induction ns with
  | nil => rfl
  | cons n ns ih => show (asBls (ns.map PV.bl)).map _ = _; rw [ih]; rfl
theorem asStrs_map (ns : List Str) : asStrs (ns.map PV.str) = some ns := by
  induction ns with
  | nil => rfl
  | cons n ns ih => show (asStrs (ns.map PV.str)).map _ = _; rw [ih]; rfl
theorem as_ints {ns : List Int} {k : List Int → Option α} : (asInts (ns.map PV.int)).bind k = k ns := by rw [asInts_map]; rfl
theorem as_bls {ns : List Bool} {k : List Bool → Option α} : (asBls (ns.map PV.bl)).bind k = k ns := by rw [asBls_map]; rfl
theorem as_strs {ns : List Str} {k : List Str → Option α} : (asStrs (ns.map PV.str)).bind k = k ns := by rw [asStrs_map]; rfl
theorem kit_non_tuple : kitB "NoneType" "tuple" = some false := by decide +kernel
theorem is_non_tuple {k : Bool → Option α} : (isi2 (.non) "tuple").bind k = k false := by
  show (kitB "NoneType" "tuple").bind k = _
  rw [kit_non_tuple]; rfl
theorem kit_non_list : kitB "NoneType" "list" = some false := by decide +kernel
theorem is_non_list {k : Bool → Option α} : (isi2 (.non) "list").bind k = k false := by
  show (kitB "NoneType" "list").bind k = _
  rw [kit_non_list]; rfl
theorem kit_non_bool : kitB "NoneType" "bool" = some false := by decide +kernel
theorem is_non_bool {k : Bool → Option α} : (isi2 (.non) "bool").bind k = k false := by
  show (kitB "NoneType" "bool").bind k = _
  rw [kit_non_bool]; rfl
theorem kit_non_int : kitB "NoneType" "int" = some false := by decide +kernel
theorem is_non_int {k : Bool → Option α} : (isi2 (.non) "int").bind k = k false := by
  show (kitB "NoneType" "int").bind k = _
  rw [kit_non_int]; rfl
theorem kit_non_str : kitB "NoneType" "str" = some false := by decide +kernel
theorem is_non_str {k : Bool → Option α} : (isi2 (.non) "str").bind k = k false := by
  show (kitB "NoneType" "str").bind k = _
  rw [kit_non_str]; rfl
theorem kit_bl_tuple : kitB "bool" "tuple" = some false := by decide +kernel
theorem is_bl_tuple {i : Bool} {k : Bool → Option α} : (isi2 (.bl i) "tuple").bind k = k false := by
  show (kitB "bool" "tuple").bind k = _
  rw [kit_bl_tuple]; rfl
theorem kit_bl_list : kitB "bool" "list" = some false := by decide +kernel
theorem is_bl_list {i : Bool} {k : Bool → Option α} : (isi2 (.bl i) "list").bind k = k false := by
  show (kitB "bool" "list").bind k = _
  rw [kit_bl_list]; rfl
theorem kit_bl_bool : kitB "bool" "bool" = some true := by decide +kernel
theorem is_bl_bool {i : Bool} {k : Bool → Option α} : (isi2 (.bl i) "bool").bind k = k true := by
  show (kitB "bool" "bool").bind k = _
  rw [kit_bl_bool]; rfl
theorem kit_bl_int : kitB "bool" "int" = some true := by decide +kernel
theorem is_bl_int {i : Bool} {k : Bool → Option α} : (isi2 (.bl i) "int").bind k = k true := by
  show (kitB "bool" "int").bind k = _
  rw [kit_bl_int]; rfl
theorem kit_bl_str : kitB "bool" "str" = some false := by decide +kernel
theorem is_bl_str {i : Bool} {k : Bool → Option α} : (isi2 (.bl i) "str").bind k = k false := by
  show (kitB "bool" "str").bind k = _
  rw [kit_bl_str]; rfl
theorem kit_int_tuple : kitB "int" "tuple" = some false := by decide +kernel
theorem is_int_tuple {i : Int} {k : Bool → Option α} : (isi2 (.int i) "tuple").bind k = k false := by
  show (kitB "int" "tuple").bind k = _
  rw [kit_int_tuple]; rfl
theorem kit_int_list : kitB "int" "list" = some false := by decide +kernel
theorem is_int_list {i : Int} {k : Bool → Option α} : (isi2 (.int i) "list").bind k = k false := by
  show (kitB "int" "list").bind k = _
  rw [kit_int_list]; rfl
theorem kit_int_bool : kitB "int" "bool" = some false := by decide +kernel
theorem is_int_bool {i : Int} {k : Bool → Option α} : (isi2 (.int i) "bool").bind k = k false := by
  show (kitB "int" "bool").bind k = _
  rw [kit_int_bool]; rfl
theorem kit_int_int : kitB "int" "int" = some true := by decide +kernel
theorem is_int_int {i : Int} {k : Bool → Option α} : (isi2 (.int i) "int").bind k = k true := by
  show (kitB "int" "int").bind k = _
  rw [kit_int_int]; rfl
theorem kit_int_str : kitB "int" "str" = some false := by decide +kernel
theorem is_int_str {i : Int} {k : Bool → Option α} : (isi2 (.int i) "str").bind k = k false := by
  show (kitB "int" "str").bind k = _
  rw [kit_int_str]; rfl
theorem kit_str_tuple : kitB "str" "tuple" = some false := by decide +kernel
theorem is_str_tuple {i : Str} {k : Bool → Option α} : (isi2 (.str i) "tuple").bind k = k false := by
  show (kitB "str" "tuple").bind k = _
  rw [kit_str_tuple]; rfl
theorem kit_str_list : kitB "str" "list" = some false := by decide +kernel
theorem is_str_list {i : Str} {k : Bool → Option α} : (isi2 (.str i) "list").bind k = k false := by
  show (kitB "str" "list").bind k = _
  rw [kit_str_list]; rfl
theorem kit_str_bool : kitB "str" "bool" = some false := by decide +kernel
theorem is_str_bool {i : Str} {k : Bool → Option α} : (isi2 (.str i) "bool").bind k = k false := by
  show (kitB "str" "bool").bind k = _
  rw [kit_str_bool]; rfl
theorem kit_str_int : kitB "str" "int" = some false := by decide +kernel
theorem is_str_int {i : Str} {k : Bool → Option α} : (isi2 (.str i) "int").bind k = k false := by
  show (kitB "str" "int").bind k = _
  rw [kit_str_int]; rfl
theorem kit_str_str : kitB "str" "str" = some true := by decide +kernel
theorem is_str_str {i : Str} {k : Bool → Option α} : (isi2 (.str i) "str").bind k = k true := by
  show (kitB "str" "str").bind k = _
  rw [kit_str_str]; rfl
theorem kit_lst_tuple : kitB "list" "tuple" = some false := by decide +kernel
theorem is_lst_tuple {i : List PV} {k : Bool → Option α} : (isi2 (.lst i) "tuple").bind k = k false := by
  show (kitB "list" "tuple").bind k = _
  rw [kit_lst_tuple]; rfl
theorem kit_lst_list : kitB "list" "list" = some true := by decide +kernel
theorem is_lst_list {i : List PV} {k : Bool → Option α} : (isi2 (.lst i) "list").bind k = k true := by
  show (kitB "list" "list").bind k = _
  rw [kit_lst_list]; rfl
theorem kit_lst_bool : kitB "list" "bool" = some false := by decide +kernel
theorem is_lst_bool {i : List PV} {k : Bool → Option α} : (isi2 (.lst i) "bool").bind k = k false := by
  show (kitB "list" "bool").bind k = _
  rw [kit_lst_bool]; rfl
theorem kit_lst_int : kitB "list" "int" = some false := by decide +kernel
theorem is_lst_int {i : List PV} {k : Bool → Option α} : (isi2 (.lst i) "int").bind k = k false := by
  show (kitB "list" "int").bind k = _
  rw [kit_lst_int]; rfl
theorem kit_lst_str : kitB "list" "str" = some false := by decide +kernel
theorem is_lst_str {i : List PV} {k : Bool → Option α} : (isi2 (.lst i) "str").bind k = k false := by
  show (kitB "list" "str").bind k = _
  rw [kit_lst_str]; rfl
theorem kit_tup_tuple : kitB "tuple" "tuple" = some true := by decide +kernel
theorem is_tup_tuple {i : List PV} {k : Bool → Option α} : (isi2 (.tup i) "tuple").bind k = k true := by
  show (kitB "tuple" "tuple").bind k = _
  rw [kit_tup_tuple]; rfl
theorem kit_tup_list : kitB "tuple" "list" = some false := by decide +kernel
theorem is_tup_list {i : List PV} {k : Bool → Option α} : (isi2 (.tup i) "list").bind k = k false := by
  show (kitB "tuple" "list").bind k = _
  rw [kit_tup_list]; rfl
theorem kit_tup_bool : kitB "tuple" "bool" = some false := by decide +kernel
theorem is_tup_bool {i : List PV} {k : Bool → Option α} : (isi2 (.tup i) "bool").bind k = k false := by
  show (kitB "tuple" "bool").bind k = _
  rw [kit_tup_bool]; rfl
theorem kit_tup_int : kitB "tuple" "int" = some false := by decide +kernel
theorem is_tup_int {i : List PV} {k : Bool → Option α} : (isi2 (.tup i) "int").bind k = k false := by
  show (kitB "tuple" "int").bind k = _
  rw [kit_tup_int]; rfl
theorem kit_tup_str : kitB "tuple" "str" = some false := by decide +kernel
theorem is_tup_str {i : List PV} {k : Bool → Option α} : (isi2 (.tup i) "str").bind k = k false := by
  show (kitB "tuple" "str").bind k = _
  rw [kit_tup_str]; rfl
theorem it_lst {xs : List PV} {k : List PV → Option α} : (items1 (.lst xs)).bind k = k xs := Eq.trans rfl rfl
theorem it_tup {xs : List PV} {k : List PV → Option α} : (items1 (.tup xs)).bind k = k xs := Eq.trans rfl rfl
theorem z_lst {xs ys : List PV} {k : List PV → Option α} : (zipL (.lst xs) (.lst ys)).bind k = k (xs.zipWith (fun x y => PV.tup [x, y]) ys) := Eq.trans rfl rfl
theorem z_tup {xs ys : List PV} {k : List PV → Option α} : (zipL (.tup xs) (.tup ys)).bind k = k (xs.zipWith (fun x y => PV.tup [x, y]) ys) := Eq.trans rfl rfl
end
def finK : Option Fl → Option Sl
  | some (.ret s) => some s
  | some (.next _) => some (.sh .non)
  | _ => none
theorem finK_ret {s : Sl} : finK (some (.ret s)) = some s := rfl
theorem finK_next {e : PEnv} : finK (some (.next e)) = some (.sh .non) := rfl
theorem finK_for {body : PV → PEnv → Option Fl} {xs : List PV} {e : PEnv} {k : Fl → Option Fl} : finK ((forL body xs e).bind k) = (forL body xs e).bind fun r => finK (k r) := by cases forL body xs e <;> rfl
theorem finK_while {test : PEnv → Option (Bool × PEnv)} {body : PEnv → Option Fl} {n : Nat} {e : PEnv} {k : Fl → Option Fl} : finK ((whileL test body n e).bind k) = (whileL test body n e).bind fun r => finK (k r) := by cases whileL test body n e <;> rfl
theorem finK_comp {step : PV → PEnv → Option (Option PV × PEnv)} {xs acc : List PV} {e : PEnv} {k : List PV × PEnv → Option Fl} : finK ((compL step xs e acc).bind k) = (compL step xs e acc).bind fun r => finK (k r) := by cases compL step xs e acc <;> rfl
theorem finK_ifB {c : Bool} {a b : Option Fl} : finK (ifB c a b) = ifB c (finK a) (finK b) := by cases c <;> rfl
theorem finK_okK {c : Prop} [Decidable c] {a : Option Fl} : finK (okK c a) = okK c (finK a) := by unfold okK; split <;> rfl
theorem ifB_eq {α : Type} {c : Bool} {a b : Option α} : ifB c a b = if c = true then a else b := rfl
theorem ifB_same {α : Type} {c : Bool} {a : Option α} : ifB c a a = a := by cases c <;> rfl

def setE (i : Nat) (q : Sl) (ss : Ss) (env : PEnv) (F : Fns) : Option Fl := exs F ss (env.set i (some q))
def appE (i : Nat) (q : PV) (ss : Ss) (env : PEnv) (F : Fns) : Option Fl := match env.getD i none with
  | some (.own xs) => if xs.length < lim then exs F ss (env.set i (some (.own (xs ++ [q])))) else none
  | _ => none
def extE (i : Nat) (x : Bw) (ss : Ss) (env : PEnv) (F : Fns) : Option Fl := match slb env x, env.getD i none with
  | some (.own ys), some (.own xs) => if xs.length + ys.length ≤ lim then exs F ss (env.set i (some (.own (xs ++ ys)))) else none
  | _, _ => none
def extK (xs ys : List PV) (k : Option Fl) : Option Fl := if xs.length + ys.length ≤ lim then k else none
theorem extK_ok {xs ys : List PV} {k : Option Fl} (h : xs.length + ys.length ≤ 16777216) : extK xs ys k = k := if_pos h
section
variable {F : Fns} {env : PEnv} {ss : Ss}
/-- a block behind a block -/
def Ss.app : Ss → Ss → Ss
  | .nil, b => b
  | .cons s a, b => .cons s (a.app b)
theorem app_nil {b : Ss} : Ss.app .nil b = b := rfl
theorem app_cons {s : S} {a b : Ss} : Ss.app (.cons s a) b = .cons s (a.app b) := rfl
/-- what stands behind a block's end -/
def flK (k : PEnv → Option Fl) : Fl → Option Fl
  | .next e => k e
  | .ret v => some (.ret v)
  | .brk e => some (.brk e)
theorem flK_next {k : PEnv → Option Fl} {e : PEnv} : flK k (.next e) = k e := rfl
theorem flK_ret {k : PEnv → Option Fl} {s : Sl} : flK k (.ret s) = some (.ret s) := rfl
theorem flK_brk {k : PEnv → Option Fl} {e : PEnv} : flK k (.brk e) = some (.brk e) := rfl
theorem exs_app (F : Fns) : ∀ (a b : Ss) (env : PEnv), (exs F a env).bind (flK fun e => exs F b e) = exs F (a.app b) env
  | .nil, b, env => rfl
  | .cons s a, b, env => by
    show (((ex F s env).bind _).bind _) = (ex F s env).bind _
    rw [bind_as]
    congr; funext r
    cases r with
    | next e => exact exs_app F a b e
    | ret v => rfl
    | brk e => rfl
theorem exs_cons' {s : S} : exs F (.cons s ss) env = (ex F s env).bind (flK fun e => exs F ss e) := by
  show (ex F s env).bind _ = _
  congr

theorem s_nil : exs F .nil env = some (.next env) := Eq.trans rfl rfl
theorem s_set {i : Nat} {e : E} : exs F (.cons (.set i e) ss) env = (ev F e env).bind fun r => (fixO r.2 r.1).bind fun q => setE i q.1 ss q.2 F := by simp only [exs_cons', ex, bind_as, map_as, flK_next]; rfl
theorem s_expr {e : E} : exs F (.cons (.expr e) ss) env = (ev F e env).bind fun r => exs F ss r.2 := by simp only [exs_cons', ex, bind_as, map_as, flK_next]
theorem s_ret {e : E} : exs F (.cons (.ret e) ss) env = (ev F e env).bind fun r => (fixO r.2 r.1).bind fun q => some (.ret q.1) := by simp only [exs_cons', ex, bind_as, map_as, flK_ret]
theorem s_retN : exs F (.cons .retN ss) env = some (.ret (.sh .non)) := Eq.trans rfl rfl
theorem s_pass : exs F (.cons .pass ss) env = exs F ss env := Eq.trans rfl rfl
theorem s_brk : exs F (.cons .brk ss) env = some (.brk env) := Eq.trans rfl rfl
def ifS (c : Bool) (a b : Option Fl) : Option Fl := if c then a else b
theorem ifS_t {a b : Option Fl} : ifS true a b = a := Eq.trans rfl rfl
theorem ifS_f {a b : Option Fl} : ifS false a b = b := Eq.trans rfl rfl
theorem ifS_not {c : Bool} {a b : Option Fl} : ifS (!c) a b = ifS c b a := by cases c <;> rfl
theorem ifS_pos {p : Prop} [Decidable p] {a b : Option Fl} (h : p) : ifS (decide p) a b = a := by rw [decide_eq_true h]; rfl
theorem ifS_neg {p : Prop} [Decidable p] {a b : Option Fl} (h : ¬ p) : ifS (decide p) a b = b := by rw [decide_eq_false h]; rfl
theorem ifB_not {α : Type} {c : Bool} {a b : Option α} : ifB (!c) a b = ifB c b a := by cases c <;> rfl
theorem ifB_pos {α : Type} {p : Prop} [Decidable p] {a b : Option α} (h : p) : ifB (decide p) a b = a := by rw [decide_eq_true h]; rfl
theorem ifB_neg {α : Type} {p : Prop} [Decidable p] {a b : Option α} (h : ¬ p) : ifB (decide p) a b = b := by rw [decide_eq_false h]; rfl
theorem finK_ifS {c : Bool} {a b : Option Fl} : finK (ifS c a b) = ifB c (finK a) (finK b) := by cases c <;> rfl
theorem s_if {c : T} {a b : Ss} : exs F (.cons (.ife c a b) ss) env = (evT F c env).bind fun r => ifS r.1 (exs F (a.app ss) r.2) (exs F (b.app ss) r.2) := by
  simp only [exs_cons', ex, bind_as]
  congr; funext r
  obtain ⟨c, e⟩ := r
  cases c
  · exact exs_app F b ss e
  · exact exs_app F a ss e
theorem s_for {tg : Tg} {it : I} {b : Ss} : exs F (.cons (.for tg it b) ss) env = (evI F it env).bind fun r => (forL (fun p e => (bindT tg p e).bind fun e1 => exs F b e1) r.1 r.2).bind (flK fun e => exs F ss e) := by simp only [exs_cons', ex, bind_as]
theorem s_while {c : T} {b : Ss} : exs F (.cons (.while c b) ss) env = (whileL (evT F c) (exs F b) fuel env).bind (flK fun e => exs F ss e) := by simp only [exs_cons', ex]
def appK (xs : List PV) (k : Option Fl) : Option Fl := if xs.length < lim then k else none
theorem appK_ok {xs : List PV} {k : Option Fl} (h : xs.length < 16777216) : appK xs k = k := if_pos h
theorem s_app0 {p : List PV} {l : PEnv} {e : E} : exs F (.cons (.app 0 e) ss) (some (.own p) :: l) = (ev F e (some (.own p) :: l)).bind fun r => (fix r.2 r.1).bind fun q => appE 0 q.1 ss q.2 F := by
  rw [exs_cons']
  show ((ev F e (some (.own p) :: l)).bind _).bind _ = _
  rw [bind_as]
  congr; funext r
  rw [bind_as]
  congr; funext q
  unfold appE
  cases q.2.getD 0 none with
  | none => rfl
  | some s =>
    cases s with
    | sh p => rfl
    | own xs =>
      dsimp only
      split <;> rfl
theorem appE_0 {p : List PV} {q : PV} {l : PEnv} : appE 0 q ss (some (.own p) :: l) F = appK p (exs F ss (some (.own (p ++ [q])) :: l)) := Eq.trans rfl rfl
theorem s_ext0 {p : List PV} {l : PEnv} {e : E} : exs F (.cons (.ext 0 e) ss) (some (.own p) :: l) = (ev F e (some (.own p) :: l)).bind fun r => extE 0 r.1 ss r.2 F := by
  rw [exs_cons']
  show ((ev F e (some (.own p) :: l)).bind _).bind _ = _
  rw [bind_as]
  congr; funext r
  unfold extE
  cases slb r.2 r.1 with
  | none => rfl
  | some t =>
    cases t with
    | sh p => rfl
    | own ys =>
      cases r.2.getD 0 none with
      | none => rfl
      | some s =>
        cases s with
        | sh p => rfl
        | own xs =>
          dsimp only
          split <;> rfl
theorem extE_0 {p q : List PV} {l : PEnv} : extE 0 (.t (.own q)) ss (some (.own p) :: l) F = extK p q (exs F ss (some (.own (p ++ q)) :: l)) := Eq.trans rfl rfl
theorem setE_0 {x : Option Sl} {s : Sl} {l : PEnv} : setE 0 s ss (x :: l) F = exs F ss (some s :: l) := Eq.trans rfl rfl
theorem s_app1 {x0 : Option Sl} {p : List PV} {l : PEnv} {e : E} : exs F (.cons (.app 1 e) ss) (x0 :: some (.own p) :: l) = (ev F e (x0 :: some (.own p) :: l)).bind fun r => (fix r.2 r.1).bind fun q => appE 1 q.1 ss q.2 F := by
  rw [exs_cons']
  show ((ev F e (x0 :: some (.own p) :: l)).bind _).bind _ = _
  rw [bind_as]
  congr; funext r
  rw [bind_as]
  congr; funext q
  unfold appE
  cases q.2.getD 1 none with
  | none => rfl
  | some s =>
    cases s with
    | sh p => rfl
    | own xs =>
      dsimp only
      split <;> rfl
theorem appE_1 {x0 : Option Sl} {p : List PV} {q : PV} {l : PEnv} : appE 1 q ss (x0 :: some (.own p) :: l) F = appK p (exs F ss (x0 :: some (.own (p ++ [q])) :: l)) := Eq.trans rfl rfl
theorem s_ext1 {x0 : Option Sl} {p : List PV} {l : PEnv} {e : E} : exs F (.cons (.ext 1 e) ss) (x0 :: some (.own p) :: l) = (ev F e (x0 :: some (.own p) :: l)).bind fun r => extE 1 r.1 ss r.2 F := by
  rw [exs_cons']
  show ((ev F e (x0 :: some (.own p) :: l)).bind _).bind _ = _
  rw [bind_as]
  congr; funext r
  unfold extE
  cases slb r.2 r.1 with
  | none => rfl
  | some t =>
    cases t with
    | sh p => rfl
    | own ys =>
      cases r.2.getD 1 none with
      | none => rfl
      | some s =>
        cases s with
        | sh p => rfl
        | own xs =>
          dsimp only
          split <;> rfl
theorem extE_1 {x0 : Option Sl} {p q : List PV} {l : PEnv} : extE 1 (.t (.own q)) ss (x0 :: some (.own p) :: l) F = extK p q (exs F ss (x0 :: some (.own (p ++ q)) :: l)) := Eq.trans rfl rfl
theorem setE_1 {x0 : Option Sl} {x : Option Sl} {s : Sl} {l : PEnv} : setE 1 s ss (x0 :: x :: l) F = exs F ss (x0 :: some s :: l) := Eq.trans rfl rfl
theorem s_app2 {x0 x1 : Option Sl} {p : List PV} {l : PEnv} {e : E} : exs F (.cons (.app 2 e) ss) (x0 :: x1 :: some (.own p) :: l) = (ev F e (x0 :: x1 :: some (.own p) :: l)).bind fun r => (fix r.2 r.1).bind fun q => appE 2 q.1 ss q.2 F := by
  rw [exs_cons']
  show ((ev F e (x0 :: x1 :: some (.own p) :: l)).bind _).bind _ = _
  rw [bind_as]
  congr; funext r
  rw [bind_as]
  congr; funext q
  unfold appE
  cases q.2.getD 2 none with
  | none => rfl
  | some s =>
    cases s with
    | sh p => rfl
    | own xs =>
      dsimp only
      split <;> rfl
theorem appE_2 {x0 x1 : Option Sl} {p : List PV} {q : PV} {l : PEnv} : appE 2 q ss (x0 :: x1 :: some (.own p) :: l) F = appK p (exs F ss (x0 :: x1 :: some (.own (p ++ [q])) :: l)) := Eq.trans rfl rfl
theorem s_ext2 {x0 x1 : Option Sl} {p : List PV} {l : PEnv} {e : E} : exs F (.cons (.ext 2 e) ss) (x0 :: x1 :: some (.own p) :: l) = (ev F e (x0 :: x1 :: some (.own p) :: l)).bind fun r => extE 2 r.1 ss r.2 F := by
  rw [exs_cons']
  show ((ev F e (x0 :: x1 :: some (.own p) :: l)).bind _).bind _ = _
  rw [bind_as]
  congr; funext r
  unfold extE
  cases slb r.2 r.1 with
  | none => rfl
  | some t =>
    cases t with
    | sh p => rfl
    | own ys =>
      cases r.2.getD 2 none with
      | none => rfl
      | some s =>
        cases s with
        | sh p => rfl
        | own xs =>
          dsimp only
          split <;> rfl
theorem extE_2 {x0 x1 : Option Sl} {p q : List PV} {l : PEnv} : extE 2 (.t (.own q)) ss (x0 :: x1 :: some (.own p) :: l) F = extK p q (exs F ss (x0 :: x1 :: some (.own (p ++ q)) :: l)) := Eq.trans rfl rfl
theorem setE_2 {x0 x1 : Option Sl} {x : Option Sl} {s : Sl} {l : PEnv} : setE 2 s ss (x0 :: x1 :: x :: l) F = exs F ss (x0 :: x1 :: some s :: l) := Eq.trans rfl rfl
theorem s_app3 {x0 x1 x2 : Option Sl} {p : List PV} {l : PEnv} {e : E} : exs F (.cons (.app 3 e) ss) (x0 :: x1 :: x2 :: some (.own p) :: l) = (ev F e (x0 :: x1 :: x2 :: some (.own p) :: l)).bind fun r => (fix r.2 r.1).bind fun q => appE 3 q.1 ss q.2 F := by
  rw [exs_cons']
  show ((ev F e (x0 :: x1 :: x2 :: some (.own p) :: l)).bind _).bind _ = _
  rw [bind_as]
  congr; funext r
  rw [bind_as]
  congr; funext q
  unfold appE
  cases q.2.getD 3 none with
  | none => rfl
  | some s =>
    cases s with
    | sh p => rfl
    | own xs =>
      dsimp only
      split <;> rfl
theorem appE_3 {x0 x1 x2 : Option Sl} {p : List PV} {q : PV} {l : PEnv} : appE 3 q ss (x0 :: x1 :: x2 :: some (.own p) :: l) F = appK p (exs F ss (x0 :: x1 :: x2 :: some (.own (p ++ [q])) :: l)) := Eq.trans rfl rfl
theorem s_ext3 {x0 x1 x2 : Option Sl} {p : List PV} {l : PEnv} {e : E} : exs F (.cons (.ext 3 e) ss) (x0 :: x1 :: x2 :: some (.own p) :: l) = (ev F e (x0 :: x1 :: x2 :: some (.own p) :: l)).bind fun r => extE 3 r.1 ss r.2 F := by
  rw [exs_cons']
  show ((ev F e (x0 :: x1 :: x2 :: some (.own p) :: l)).bind _).bind _ = _
  rw [bind_as]
  congr; funext r
  unfold extE
  cases slb r.2 r.1 with
  | none => rfl
  | some t =>
    cases t with
    | sh p => rfl
    | own ys =>
      cases r.2.getD 3 none with
      | none => rfl
      | some s =>
        cases s with
        | sh p => rfl
        | own xs =>
          dsimp only
          split <;> rfl
theorem extE_3 {x0 x1 x2 : Option Sl} {p q : List PV} {l : PEnv} : extE 3 (.t (.own q)) ss (x0 :: x1 :: x2 :: some (.own p) :: l) F = extK p q (exs F ss (x0 :: x1 :: x2 :: some (.own (p ++ q)) :: l)) := Eq.trans rfl rfl
theorem setE_3 {x0 x1 x2 : Option Sl} {x : Option Sl} {s : Sl} {l : PEnv} : setE 3 s ss (x0 :: x1 :: x2 :: x :: l) F = exs F ss (x0 :: x1 :: x2 :: some s :: l) := Eq.trans rfl rfl
theorem s_app4 {x0 x1 x2 x3 : Option Sl} {p : List PV} {l : PEnv} {e : E} : exs F (.cons (.app 4 e) ss) (x0 :: x1 :: x2 :: x3 :: some (.own p) :: l) = (ev F e (x0 :: x1 :: x2 :: x3 :: some (.own p) :: l)).bind fun r => (fix r.2 r.1).bind fun q => appE 4 q.1 ss q.2 F := by
  rw [exs_cons']
  show ((ev F e (x0 :: x1 :: x2 :: x3 :: some (.own p) :: l)).bind _).bind _ = _
  rw [bind_as]
  congr; funext r
  rw [bind_as]
  congr; funext q
  unfold appE
  cases q.2.getD 4 none with
  | none => rfl
  | some s =>
    cases s with
    | sh p => rfl
    | own xs =>
      dsimp only
      split <;> rfl
theorem appE_4 {x0 x1 x2 x3 : Option Sl} {p : List PV} {q : PV} {l : PEnv} : appE 4 q ss (x0 :: x1 :: x2 :: x3 :: some (.own p) :: l) F = appK p (exs F ss (x0 :: x1 :: x2 :: x3 :: some (.own (p ++ [q])) :: l)) := Eq.trans rfl rfl
theorem s_ext4 {x0 x1 x2 x3 : Option Sl} {p : List PV} {l : PEnv} {e : E} : exs F (.cons (.ext 4 e) ss) (x0 :: x1 :: x2 :: x3 :: some (.own p) :: l) = (ev F e (x0 :: x1 :: x2 :: x3 :: some (.own p) :: l)).bind fun r => extE 4 r.1 ss r.2 F := by
  rw [exs_cons']
  show ((ev F e (x0 :: x1 :: x2 :: x3 :: some (.own p) :: l)).bind _).bind _ = _
  rw [bind_as]
  congr; funext r
  unfold extE
  cases slb r.2 r.1 with
  | none => rfl
  | some t =>
    cases t with
    | sh p => rfl
    | own ys =>
      cases r.2.getD 4 none with
      | none => rfl
      | some s =>
        cases s with
        | sh p => rfl
        | own xs =>
          dsimp only
          split <;> rfl
theorem extE_4 {x0 x1 x2 x3 : Option Sl} {p q : List PV} {l : PEnv} : extE 4 (.t (.own q)) ss (x0 :: x1 :: x2 :: x3 :: some (.own p) :: l) F = extK p q (exs F ss (x0 :: x1 :: x2 :: x3 :: some (.own (p ++ q)) :: l)) := Eq.trans rfl rfl
theorem setE_4 {x0 x1 x2 x3 : Option Sl} {x : Option Sl} {s : Sl} {l : PEnv} : setE 4 s ss (x0 :: x1 :: x2 :: x3 :: x :: l) F = exs F ss (x0 :: x1 :: x2 :: x3 :: some s :: l) := Eq.trans rfl rfl
theorem s_app5 {x0 x1 x2 x3 x4 : Option Sl} {p : List PV} {l : PEnv} {e : E} : exs F (.cons (.app 5 e) ss) (x0 :: x1 :: x2 :: x3 :: x4 :: some (.own p) :: l) = (ev F e (x0 :: x1 :: x2 :: x3 :: x4 :: some (.own p) :: l)).bind fun r => (fix r.2 r.1).bind fun q => appE 5 q.1 ss q.2 F := by
  rw [exs_cons']
  show ((ev F e (x0 :: x1 :: x2 :: x3 :: x4 :: some (.own p) :: l)).bind _).bind _ = _
  rw [bind_as]
  congr; funext r
  rw [bind_as]
  congr; funext q
  unfold appE
  cases q.2.getD 5 none with
  | none => rfl
  | some s =>
    cases s with
    | sh p => rfl
    | own xs =>
      dsimp only
      split <;> rfl
theorem appE_5 {x0 x1 x2 x3 x4 : Option Sl} {p : List PV} {q : PV} {l : PEnv} : appE 5 q ss (x0 :: x1 :: x2 :: x3 :: x4 :: some (.own p) :: l) F = appK p (exs F ss (x0 :: x1 :: x2 :: x3 :: x4 :: some (.own (p ++ [q])) :: l)) := Eq.trans rfl rfl
theorem s_ext5 {x0 x1 x2 x3 x4 : Option Sl} {p : List PV} {l : PEnv} {e : E} : exs F (.cons (.ext 5 e) ss) (x0 :: x1 :: x2 :: x3 :: x4 :: some (.own p) :: l) = (ev F e (x0 :: x1 :: x2 :: x3 :: x4 :: some (.own p) :: l)).bind fun r => extE 5 r.1 ss r.2 F := by
  rw [exs_cons']
  show ((ev F e (x0 :: x1 :: x2 :: x3 :: x4 :: some (.own p) :: l)).bind _).bind _ = _
  rw [bind_as]
  congr; funext r
  unfold extE
  cases slb r.2 r.1 with
  | none => rfl
  | some t =>
    cases t with
    | sh p => rfl
    | own ys =>
      cases r.2.getD 5 none with
      | none => rfl
      | some s =>
        cases s with
        | sh p => rfl
        | own xs =>
          dsimp only
          split <;> rfl
theorem extE_5 {x0 x1 x2 x3 x4 : Option Sl} {p q : List PV} {l : PEnv} : extE 5 (.t (.own q)) ss (x0 :: x1 :: x2 :: x3 :: x4 :: some (.own p) :: l) F = extK p q (exs F ss (x0 :: x1 :: x2 :: x3 :: x4 :: some (.own (p ++ q)) :: l)) := Eq.trans rfl rfl
theorem setE_5 {x0 x1 x2 x3 x4 : Option Sl} {x : Option Sl} {s : Sl} {l : PEnv} : setE 5 s ss (x0 :: x1 :: x2 :: x3 :: x4 :: x :: l) F = exs F ss (x0 :: x1 :: x2 :: x3 :: x4 :: some s :: l) := Eq.trans rfl rfl
theorem s_app6 {x0 x1 x2 x3 x4 x5 : Option Sl} {p : List PV} {l : PEnv} {e : E} : exs F (.cons (.app 6 e) ss) (x0 :: x1 :: x2 :: x3 :: x4 :: x5 :: some (.own p) :: l) = (ev F e (x0 :: x1 :: x2 :: x3 :: x4 :: x5 :: some (.own p) :: l)).bind fun r => (fix r.2 r.1).bind fun q => appE 6 q.1 ss q.2 F := by
  rw [exs_cons']
  show ((ev F e (x0 :: x1 :: x2 :: x3 :: x4 :: x5 :: some (.own p) :: l)).bind _).bind _ = _
  rw [bind_as]
  congr; funext r
  rw [bind_as]
  congr; funext q
  unfold appE
  cases q.2.getD 6 none with
  | none => rfl
  | some s =>
    cases s with
    | sh p => rfl
    | own xs =>
      dsimp only
      split <;> rfl
theorem appE_6 {x0 x1 x2 x3 x4 x5 : Option Sl} {p : List PV} {q : PV} {l : PEnv} : appE 6 q ss (x0 :: x1 :: x2 :: x3 :: x4 :: x5 :: some (.own p) :: l) F = appK p (exs F ss (x0 :: x1 :: x2 :: x3 :: x4 :: x5 :: some (.own (p ++ [q])) :: l)) := Eq.trans rfl rfl
theorem s_ext6 {x0 x1 x2 x3 x4 x5 : Option Sl} {p : List PV} {l : PEnv} {e : E} : exs F (.cons (.ext 6 e) ss) (x0 :: x1 :: x2 :: x3 :: x4 :: x5 :: some (.own p) :: l) = (ev F e (x0 :: x1 :: x2 :: x3 :: x4 :: x5 :: some (.own p) :: l)).bind fun r => extE 6 r.1 ss r.2 F := by
  rw [exs_cons']
  show ((ev F e (x0 :: x1 :: x2 :: x3 :: x4 :: x5 :: some (.own p) :: l)).bind _).bind _ = _
  rw [bind_as]
  congr; funext r
  unfold extE
  cases slb r.2 r.1 with
  | none => rfl
  | some t =>
    cases t with
    | sh p => rfl
    | own ys =>
      cases r.2.getD 6 none with
      | none => rfl
      | some s =>
        cases s with
        | sh p => rfl
        | own xs =>
          dsimp only
          split <;> rfl
theorem extE_6 {x0 x1 x2 x3 x4 x5 : Option Sl} {p q : List PV} {l : PEnv} : extE 6 (.t (.own q)) ss (x0 :: x1 :: x2 :: x3 :: x4 :: x5 :: some (.own p) :: l) F = extK p q (exs F ss (x0 :: x1 :: x2 :: x3 :: x4 :: x5 :: some (.own (p ++ q)) :: l)) := Eq.trans rfl rfl
theorem setE_6 {x0 x1 x2 x3 x4 x5 : Option Sl} {x : Option Sl} {s : Sl} {l : PEnv} : setE 6 s ss (x0 :: x1 :: x2 :: x3 :: x4 :: x5 :: x :: l) F = exs F ss (x0 :: x1 :: x2 :: x3 :: x4 :: x5 :: some s :: l) := Eq.trans rfl rfl
theorem s_app7 {x0 x1 x2 x3 x4 x5 x6 : Option Sl} {p : List PV} {l : PEnv} {e : E} : exs F (.cons (.app 7 e) ss) (x0 :: x1 :: x2 :: x3 :: x4 :: x5 :: x6 :: some (.own p) :: l) = (ev F e (x0 :: x1 :: x2 :: x3 :: x4 :: x5 :: x6 :: some (.own p) :: l)).bind fun r => (fix r.2 r.1).bind fun q => appE 7 q.1 ss q.2 F := by
  rw [exs_cons']
  show ((ev F e (x0 :: x1 :: x2 :: x3 :: x4 :: x5 :: x6 :: some (.own p) :: l)).bind _).bind _ = _
  rw [bind_as]
  congr; funext r
  rw [bind_as]
  congr; funext q
  unfold appE
  cases q.2.getD 7 none with
  | none => rfl
  | some s =>
    cases s with
    | sh p => rfl
    | own xs =>
      dsimp only
      split <;> rfl
theorem appE_7 {x0 x1 x2 x3 x4 x5 x6 : Option Sl} {p : List PV} {q : PV} {l : PEnv} : appE 7 q ss (x0 :: x1 :: x2 :: x3 :: x4 :: x5 :: x6 :: some (.own p) :: l) F = appK p (exs F ss (x0 :: x1 :: x2 :: x3 :: x4 :: x5 :: x6 :: some (.own (p ++ [q])) :: l)) := Eq.trans rfl rfl
theorem s_ext7 {x0 x1 x2 x3 x4 x5 x6 : Option Sl} {p : List PV} {l : PEnv} {e : E} : exs F (.cons (.ext 7 e) ss) (x0 :: x1 :: x2 :: x3 :: x4 :: x5 :: x6 :: some (.own p) :: l) = (ev F e (x0 :: x1 :: x2 :: x3 :: x4 :: x5 :: x6 :: some (.own p) :: l)).bind fun r => extE 7 r.1 ss r.2 F := by
  rw [exs_cons']
  show ((ev F e (x0 :: x1 :: x2 :: x3 :: x4 :: x5 :: x6 :: some (.own p) :: l)).bind _).bind _ = _
  rw [bind_as]
  congr; funext r
  unfold extE
  cases slb r.2 r.1 with
  | none => rfl
  | some t =>
    cases t with
    | sh p => rfl
    | own ys =>
      cases r.2.getD 7 none with
      | none => rfl
      | some s =>
        cases s with
        | sh p => rfl
        | own xs =>
          dsimp only
          split <;> rfl
theorem extE_7 {x0 x1 x2 x3 x4 x5 x6 : Option Sl} {p q : List PV} {l : PEnv} : extE 7 (.t (.own q)) ss (x0 :: x1 :: x2 :: x3 :: x4 :: x5 :: x6 :: some (.own p) :: l) F = extK p q (exs F ss (x0 :: x1 :: x2 :: x3 :: x4 :: x5 :: x6 :: some (.own (p ++ q)) :: l)) := Eq.trans rfl rfl
theorem setE_7 {x0 x1 x2 x3 x4 x5 x6 : Option Sl} {x : Option Sl} {s : Sl} {l : PEnv} : setE 7 s ss (x0 :: x1 :: x2 :: x3 :: x4 :: x5 :: x6 :: x :: l) F = exs F ss (x0 :: x1 :: x2 :: x3 :: x4 :: x5 :: x6 :: some s :: l) := Eq.trans rfl rfl
theorem s_app8 {x0 x1 x2 x3 x4 x5 x6 x7 : Option Sl} {p : List PV} {l : PEnv} {e : E} : exs F (.cons (.app 8 e) ss) (x0 :: x1 :: x2 :: x3 :: x4 :: x5 :: x6 :: x7 :: some (.own p) :: l) = (ev F e (x0 :: x1 :: x2 :: x3 :: x4 :: x5 :: x6 :: x7 :: some (.own p) :: l)).bind fun r => (fix r.2 r.1).bind fun q => appE 8 q.1 ss q.2 F := by
  rw [exs_cons']
  show ((ev F e (x0 :: x1 :: x2 :: x3 :: x4 :: x5 :: x6 :: x7 :: some (.own p) :: l)).bind _).bind _ = _
  rw [bind_as]
  congr; funext r
  rw [bind_as]
  congr; funext q
  unfold appE
  cases q.2.getD 8 none with
  | none => rfl
  | some s =>
    cases s with
    | sh p => rfl
    | own xs =>
      dsimp only
      split <;> rfl
theorem appE_8 {x0 x1 x2 x3 x4 x5 x6 x7 : Option Sl} {p : List PV} {q : PV} {l : PEnv} : appE 8 q ss (x0 :: x1 :: x2 :: x3 :: x4 :: x5 :: x6 :: x7 :: some (.own p) :: l) F = appK p (exs F ss (x0 :: x1 :: x2 :: x3 :: x4 :: x5 :: x6 :: x7 :: some (.own (p ++ [q])) :: l)) := Eq.trans rfl rfl
theorem s_ext8 {x0 x1 x2 x3 x4 x5 x6 x7 : Option Sl} {p : List PV} {l : PEnv} {e : E} : exs F (.cons (.ext 8 e) ss) (x0 :: x1 :: x2 :: x3 :: x4 :: x5 :: x6 :: x7 :: some (.own p) :: l) = (ev F e (x0 :: x1 :: x2 :: x3 :: x4 :: x5 :: x6 :: x7 :: some (.own p) :: l)).bind fun r => extE 8 r.1 ss r.2 F := by
  rw [exs_cons']
  show ((ev F e (x0 :: x1 :: x2 :: x3 :: x4 :: x5 :: x6 :: x7 :: some (.own p) :: l)).bind _).bind _ = _
  rw [bind_as]
  congr; funext r
  unfold extE
  cases slb r.2 r.1 with
  | none => rfl
  | some t =>
    cases t with
    | sh p => rfl
    | own ys =>
      cases r.2.getD 8 none with
      | none => rfl
      | some s =>
        cases s with
        | sh p => rfl
        | own xs =>
          dsimp only
          split <;> rfl
theorem extE_8 {x0 x1 x2 x3 x4 x5 x6 x7 : Option Sl} {p q : List PV} {l : PEnv} : extE 8 (.t (.own q)) ss (x0 :: x1 :: x2 :: x3 :: x4 :: x5 :: x6 :: x7 :: some (.own p) :: l) F = extK p q (exs F ss (x0 :: x1 :: x2 :: x3 :: x4 :: x5 :: x6 :: x7 :: some (.own (p ++ q)) :: l)) := Eq.trans rfl rfl
theorem setE_8 {x0 x1 x2 x3 x4 x5 x6 x7 : Option Sl} {x : Option Sl} {s : Sl} {l : PEnv} : setE 8 s ss (x0 :: x1 :: x2 :: x3 :: x4 :: x5 :: x6 :: x7 :: x :: l) F = exs F ss (x0 :: x1 :: x2 :: x3 :: x4 :: x5 :: x6 :: x7 :: some s :: l) := Eq.trans rfl rfl
theorem s_app9 {x0 x1 x2 x3 x4 x5 x6 x7 x8 : Option Sl} {p : List PV} {l : PEnv} {e : E} : exs F (.cons (.app 9 e) ss) (x0 :: x1 :: x2 :: x3 :: x4 :: x5 :: x6 :: x7 :: x8 :: some (.own p) :: l) = (ev F e (x0 :: x1 :: x2 :: x3 :: x4 :: x5 :: x6 :: x7 :: x8 :: some (.own p) :: l)).bind fun r => (fix r.2 r.1).bind fun q => appE 9 q.1 ss q.2 F := by
  rw [exs_cons']
  show ((ev F e (x0 :: x1 :: x2 :: x3 :: x4 :: x5 :: x6 :: x7 :: x8 :: some (.own p) :: l)).bind _).bind _ = _
  rw [bind_as]
  congr; funext r
  rw [bind_as]
  congr; funext q
  unfold appE
  cases q.2.getD 9 none with
  | none => rfl
  | some s =>
    cases s with
    | sh p => rfl
    | own xs =>
      dsimp only
      split <;> rfl
theorem appE_9 {x0 x1 x2 x3 x4 x5 x6 x7 x8 : Option Sl} {p : List PV} {q : PV} {l : PEnv} : appE 9 q ss (x0 :: x1 :: x2 :: x3 :: x4 :: x5 :: x6 :: x7 :: x8 :: some (.own p) :: l) F = appK p (exs F ss (x0 :: x1 :: x2 :: x3 :: x4 :: x5 :: x6 :: x7 :: x8 :: some (.own (p ++ [q])) :: l)) := Eq.trans rfl rfl
theorem s_ext9 {x0 x1 x2 x3 x4 x5 x6 x7 x8 : Option Sl} {p : List PV} {l : PEnv} {e : E} : exs F (.cons (.ext 9 e) ss) (x0 :: x1 :: x2 :: x3 :: x4 :: x5 :: x6 :: x7 :: x8 :: some (.own p) :: l) = (ev F e (x0 :: x1 :: x2 :: x3 :: x4 :: x5 :: x6 :: x7 :: x8 :: some (.own p) :: l)).bind fun r => extE 9 r.1 ss r.2 F := by
  rw [exs_cons']
  show ((ev F e (x0 :: x1 :: x2 :: x3 :: x4 :: x5 :: x6 :: x7 :: x8 :: some (.own p) :: l)).bind _).bind _ = _
  rw [bind_as]
  congr; funext r
  unfold extE
  cases slb r.2 r.1 with
  | none => rfl
  | some t =>
    cases t with
    | sh p => rfl
    | own ys =>
      cases r.2.getD 9 none with
      | none => rfl
      | some s =>
        cases s with
        | sh p => rfl
        | own xs =>
          dsimp only
          split <;> rfl
theorem extE_9 {x0 x1 x2 x3 x4 x5 x6 x7 x8 : Option Sl} {p q : List PV} {l : PEnv} : extE 9 (.t (.own q)) ss (x0 :: x1 :: x2 :: x3 :: x4 :: x5 :: x6 :: x7 :: x8 :: some (.own p) :: l) F = extK p q (exs F ss (x0 :: x1 :: x2 :: x3 :: x4 :: x5 :: x6 :: x7 :: x8 :: some (.own (p ++ q)) :: l)) := Eq.trans rfl rfl
theorem setE_9 {x0 x1 x2 x3 x4 x5 x6 x7 x8 : Option Sl} {x : Option Sl} {s : Sl} {l : PEnv} : setE 9 s ss (x0 :: x1 :: x2 :: x3 :: x4 :: x5 :: x6 :: x7 :: x8 :: x :: l) F = exs F ss (x0 :: x1 :: x2 :: x3 :: x4 :: x5 :: x6 :: x7 :: x8 :: some s :: l) := Eq.trans rfl rfl
theorem s_app10 {x0 x1 x2 x3 x4 x5 x6 x7 x8 x9 : Option Sl} {p : List PV} {l : PEnv} {e : E} : exs F (.cons (.app 10 e) ss) (x0 :: x1 :: x2 :: x3 :: x4 :: x5 :: x6 :: x7 :: x8 :: x9 :: some (.own p) :: l) = (ev F e (x0 :: x1 :: x2 :: x3 :: x4 :: x5 :: x6 :: x7 :: x8 :: x9 :: some (.own p) :: l)).bind fun r => (fix r.2 r.1).bind fun q => appE 10 q.1 ss q.2 F := by
  rw [exs_cons']
  show ((ev F e (x0 :: x1 :: x2 :: x3 :: x4 :: x5 :: x6 :: x7 :: x8 :: x9 :: some (.own p) :: l)).bind _).bind _ = _
  rw [bind_as]
  congr; funext r
  rw [bind_as]
  congr; funext q
  unfold appE
  cases q.2.getD 10 none with
  | none => rfl
  | some s =>
    cases s with
    | sh p => rfl
    | own xs =>
      dsimp only
      split <;> rfl
theorem appE_10 {x0 x1 x2 x3 x4 x5 x6 x7 x8 x9 : Option Sl} {p : List PV} {q : PV} {l : PEnv} : appE 10 q ss (x0 :: x1 :: x2 :: x3 :: x4 :: x5 :: x6 :: x7 :: x8 :: x9 :: some (.own p) :: l) F = appK p (exs F ss (x0 :: x1 :: x2 :: x3 :: x4 :: x5 :: x6 :: x7 :: x8 :: x9 :: some (.own (p ++ [q])) :: l)) := Eq.trans rfl rfl
theorem s_ext10 {x0 x1 x2 x3 x4 x5 x6 x7 x8 x9 : Option Sl} {p : List PV} {l : PEnv} {e : E} : exs F (.cons (.ext 10 e) ss) (x0 :: x1 :: x2 :: x3 :: x4 :: x5 :: x6 :: x7 :: x8 :: x9 :: some (.own p) :: l) = (ev F e (x0 :: x1 :: x2 :: x3 :: x4 :: x5 :: x6 :: x7 :: x8 :: x9 :: some (.own p) :: l)).bind fun r => extE 10 r.1 ss r.2 F := by
  rw [exs_cons']
  show ((ev F e (x0 :: x1 :: x2 :: x3 :: x4 :: x5 :: x6 :: x7 :: x8 :: x9 :: some (.own p) :: l)).bind _).bind _ = _
  rw [bind_as]
  congr; funext r
  unfold extE
  cases slb r.2 r.1 with
  | none => rfl
  | some t =>
    cases t with
    | sh p => rfl
    | own ys =>
      cases r.2.getD 10 none with
      | none => rfl
      | some s =>
        cases s with
        | sh p => rfl
        | own xs =>
          dsimp only
          split <;> rfl
theorem extE_10 {x0 x1 x2 x3 x4 x5 x6 x7 x8 x9 : Option Sl} {p q : List PV} {l : PEnv} : extE 10 (.t (.own q)) ss (x0 :: x1 :: x2 :: x3 :: x4 :: x5 :: x6 :: x7 :: x8 :: x9 :: some (.own p) :: l) F = extK p q (exs F ss (x0 :: x1 :: x2 :: x3 :: x4 :: x5 :: x6 :: x7 :: x8 :: x9 :: some (.own (p ++ q)) :: l)) := Eq.trans rfl rfl
theorem setE_10 {x0 x1 x2 x3 x4 x5 x6 x7 x8 x9 : Option Sl} {x : Option Sl} {s : Sl} {l : PEnv} : setE 10 s ss (x0 :: x1 :: x2 :: x3 :: x4 :: x5 :: x6 :: x7 :: x8 :: x9 :: x :: l) F = exs F ss (x0 :: x1 :: x2 :: x3 :: x4 :: x5 :: x6 :: x7 :: x8 :: x9 :: some s :: l) := Eq.trans rfl rfl
theorem s_app11 {x0 x1 x2 x3 x4 x5 x6 x7 x8 x9 x10 : Option Sl} {p : List PV} {l : PEnv} {e : E} : exs F (.cons (.app 11 e) ss) (x0 :: x1 :: x2 :: x3 :: x4 :: x5 :: x6 :: x7 :: x8 :: x9 :: x10 :: some (.own p) :: l) = (ev F e (x0 :: x1 :: x2 :: x3 :: x4 :: x5 :: x6 :: x7 :: x8 :: x9 :: x10 :: some (.own p) :: l)).bind fun r => (fix r.2 r.1).bind fun q => appE 11 q.1 ss q.2 F := by
  rw [exs_cons']
  show ((ev F e (x0 :: x1 :: x2 :: x3 :: x4 :: x5 :: x6 :: x7 :: x8 :: x9 :: x10 :: some (.own p) :: l)).bind _).bind _ = _
  rw [bind_as]
  congr; funext r
  rw [bind_as]
  congr; funext q
  unfold appE
  cases q.2.getD 11 none with
  | none => rfl
  | some s =>
    cases s with
    | sh p => rfl
    | own xs =>
      dsimp only
      split <;> rfl
theorem appE_11 {x0 x1 x2 x3 x4 x5 x6 x7 x8 x9 x10 : Option Sl} {p : List PV} {q : PV} {l : PEnv} : appE 11 q ss (x0 :: x1 :: x2 :: x3 :: x4 :: x5 :: x6 :: x7 :: x8 :: x9 :: x10 :: some (.own p) :: l) F = appK p (exs F ss (x0 :: x1 :: x2 :: x3 :: x4 :: x5 :: x6 :: x7 :: x8 :: x9 :: x10 :: some (.own (p ++ [q])) :: l)) := Eq.trans rfl rfl
theorem s_ext11 {x0 x1 x2 x3 x4 x5 x6 x7 x8 x9 x10 : Option Sl} {p : List PV} {l : PEnv} {e : E} : exs F (.cons (.ext 11 e) ss) (x0 :: x1 :: x2 :: x3 :: x4 :: x5 :: x6 :: x7 :: x8 :: x9 :: x10 :: some (.own p) :: l) = (ev F e (x0 :: x1 :: x2 :: x3 :: x4 :: x5 :: x6 :: x7 :: x8 :: x9 :: x10 :: some (.own p) :: l)).bind fun r => extE 11 r.1 ss r.2 F := by
  rw [exs_cons']
  show ((ev F e (x0 :: x1 :: x2 :: x3 :: x4 :: x5 :: x6 :: x7 :: x8 :: x9 :: x10 :: some (.own p) :: l)).bind _).bind _ = _
  rw [bind_as]
  congr; funext r
  unfold extE
  cases slb r.2 r.1 with
  | none => rfl
  | some t =>
    cases t with
    | sh p => rfl
    | own ys =>
      cases r.2.getD 11 none with
      | none => rfl
      | some s =>
        cases s with
        | sh p => rfl
        | own xs =>
          dsimp only
          split <;> rfl
theorem extE_11 {x0 x1 x2 x3 x4 x5 x6 x7 x8 x9 x10 : Option Sl} {p q : List PV} {l : PEnv} : extE 11 (.t (.own q)) ss (x0 :: x1 :: x2 :: x3 :: x4 :: x5 :: x6 :: x7 :: x8 :: x9 :: x10 :: some (.own p) :: l) F = extK p q (exs F ss (x0 :: x1 :: x2 :: x3 :: x4 :: x5 :: x6 :: x7 :: x8 :: x9 :: x10 :: some (.own (p ++ q)) :: l)) := Eq.trans rfl rfl
theorem setE_11 {x0 x1 x2 x3 x4 x5 x6 x7 x8 x9 x10 : Option Sl} {x : Option Sl} {s : Sl} {l : PEnv} : setE 11 s ss (x0 :: x1 :: x2 :: x3 :: x4 :: x5 :: x6 :: x7 :: x8 :: x9 :: x10 :: x :: l) F = exs F ss (x0 :: x1 :: x2 :: x3 :: x4 :: x5 :: x6 :: x7 :: x8 :: x9 :: x10 :: some s :: l) := Eq.trans rfl rfl
theorem s_app12 {x0 x1 x2 x3 x4 x5 x6 x7 x8 x9 x10 x11 : Option Sl} {p : List PV} {l : PEnv} {e : E} : exs F (.cons (.app 12 e) ss) (x0 :: x1 :: x2 :: x3 :: x4 :: x5 :: x6 :: x7 :: x8 :: x9 :: x10 :: x11 :: some (.own p) :: l) = (ev F e (x0 :: x1 :: x2 :: x3 :: x4 :: x5 :: x6 :: x7 :: x8 :: x9 :: x10 :: x11 :: some (.own p) :: l)).bind fun r => (fix r.2 r.1).bind fun q => appE 12 q.1 ss q.2 F := by
  rw [exs_cons']
  show ((ev F e (x0 :: x1 :: x2 :: x3 :: x4 :: x5 :: x6 :: x7 :: x8 :: x9 :: x10 :: x11 :: some (.own p) :: l)).bind _).bind _ = _
  rw [bind_as]
  congr; funext r
  rw [bind_as]
  congr; funext q
  unfold appE
  cases q.2.getD 12 none with
  | none => rfl
  | some s =>
    cases s with
    | sh p => rfl
    | own xs =>
      dsimp only
      split <;> rfl
theorem appE_12 {x0 x1 x2 x3 x4 x5 x6 x7 x8 x9 x10 x11 : Option Sl} {p : List PV} {q : PV} {l : PEnv} : appE 12 q ss (x0 :: x1 :: x2 :: x3 :: x4 :: x5 :: x6 :: x7 :: x8 :: x9 :: x10 :: x11 :: some (.own p) :: l) F = appK p (exs F ss (x0 :: x1 :: x2 :: x3 :: x4 :: x5 :: x6 :: x7 :: x8 :: x9 :: x10 :: x11 :: some (.own (p ++ [q])) :: l)) := Eq.trans rfl rfl
theorem s_ext12 {x0 x1 x2 x3 x4 x5 x6 x7 x8 x9 x10 x11 : Option Sl} {p : List PV} {l : PEnv} {e : E} : exs F (.cons (.ext 12 e) ss) (x0 :: x1 :: x2 :: x3 :: x4 :: x5 :: x6 :: x7 :: x8 :: x9 :: x10 :: x11 :: some (.own p) :: l) = (ev F e (x0 :: x1 :: x2 :: x3 :: x4 :: x5 :: x6 :: x7 :: x8 :: x9 :: x10 :: x11 :: some (.own p) :: l)).bind fun r => extE 12 r.1 ss r.2 F := by
  rw [exs_cons']
  show ((ev F e (x0 :: x1 :: x2 :: x3 :: x4 :: x5 :: x6 :: x7 :: x8 :: x9 :: x10 :: x11 :: some (.own p) :: l)).bind _).bind _ = _
  rw [bind_as]
  congr; funext r
  unfold extE
  cases slb r.2 r.1 with
  | none => rfl
  | some t =>
    cases t with
    | sh p => rfl
    | own ys =>
      cases r.2.getD 12 none with
      | none => rfl
      | some s =>
        cases s with
        | sh p => rfl
        | own xs =>
          dsimp only
          split <;> rfl
theorem extE_12 {x0 x1 x2 x3 x4 x5 x6 x7 x8 x9 x10 x11 : Option Sl} {p q : List PV} {l : PEnv} : extE 12 (.t (.own q)) ss (x0 :: x1 :: x2 :: x3 :: x4 :: x5 :: x6 :: x7 :: x8 :: x9 :: x10 :: x11 :: some (.own p) :: l) F = extK p q (exs F ss (x0 :: x1 :: x2 :: x3 :: x4 :: x5 :: x6 :: x7 :: x8 :: x9 :: x10 :: x11 :: some (.own (p ++ q)) :: l)) := Eq.trans rfl rfl
theorem setE_12 {x0 x1 x2 x3 x4 x5 x6 x7 x8 x9 x10 x11 : Option Sl} {x : Option Sl} {s : Sl} {l : PEnv} : setE 12 s ss (x0 :: x1 :: x2 :: x3 :: x4 :: x5 :: x6 :: x7 :: x8 :: x9 :: x10 :: x11 :: x :: l) F = exs F ss (x0 :: x1 :: x2 :: x3 :: x4 :: x5 :: x6 :: x7 :: x8 :: x9 :: x10 :: x11 :: some s :: l) := Eq.trans rfl rfl
theorem s_app13 {x0 x1 x2 x3 x4 x5 x6 x7 x8 x9 x10 x11 x12 : Option Sl} {p : List PV} {l : PEnv} {e : E} : exs F (.cons (.app 13 e) ss) (x0 :: x1 :: x2 :: x3 :: x4 :: x5 :: x6 :: x7 :: x8 :: x9 :: x10 :: x11 :: x12 :: some (.own p) :: l) = (ev F e (x0 :: x1 :: x2 :: x3 :: x4 :: x5 :: x6 :: x7 :: x8 :: x9 :: x10 :: x11 :: x12 :: some (.own p) :: l)).bind fun r => (fix r.2 r.1).bind fun q => appE 13 q.1 ss q.2 F := by
  rw [exs_cons']
  show ((ev F e (x0 :: x1 :: x2 :: x3 :: x4 :: x5 :: x6 :: x7 :: x8 :: x9 :: x10 :: x11 :: x12 :: some (.own p) :: l)).bind _).bind _ = _
  rw [bind_as]
  congr; funext r
  rw [bind_as]
  congr; funext q
  unfold appE
  cases q.2.getD 13 none with
  | none => rfl
  | some s =>
    cases s with
    | sh p => rfl
    | own xs =>
      dsimp only
      split <;> rfl
theorem appE_13 {x0 x1 x2 x3 x4 x5 x6 x7 x8 x9 x10 x11 x12 : Option Sl} {p : List PV} {q : PV} {l : PEnv} : appE 13 q ss (x0 :: x1 :: x2 :: x3 :: x4 :: x5 :: x6 :: x7 :: x8 :: x9 :: x10 :: x11 :: x12 :: some (.own p) :: l) F = appK p (exs F ss (x0 :: x1 :: x2 :: x3 :: x4 :: x5 :: x6 :: x7 :: x8 :: x9 :: x10 :: x11 :: x12 :: some (.own (p ++ [q])) :: l)) := Eq.trans rfl rfl
theorem s_ext13 {x0 x1 x2 x3 x4 x5 x6 x7 x8 x9 x10 x11 x12 : Option Sl} {p : List PV} {l : PEnv} {e : E} : exs F (.cons (.ext 13 e) ss) (x0 :: x1 :: x2 :: x3 :: x4 :: x5 :: x6 :: x7 :: x8 :: x9 :: x10 :: x11 :: x12 :: some (.own p) :: l) = (ev F e (x0 :: x1 :: x2 :: x3 :: x4 :: x5 :: x6 :: x7 :: x8 :: x9 :: x10 :: x11 :: x12 :: some (.own p) :: l)).bind fun r => extE 13 r.1 ss r.2 F := by
  rw [exs_cons']
  show ((ev F e (x0 :: x1 :: x2 :: x3 :: x4 :: x5 :: x6 :: x7 :: x8 :: x9 :: x10 :: x11 :: x12 :: some (.own p) :: l)).bind _).bind _ = _
  rw [bind_as]
  congr; funext r
  unfold extE
  cases slb r.2 r.1 with
  | none => rfl
  | some t =>
    cases t with
    | sh p => rfl
    | own ys =>
      cases r.2.getD 13 none with
      | none => rfl
      | some s =>
        cases s with
        | sh p => rfl
        | own xs =>
          dsimp only
          split <;> rfl
theorem extE_13 {x0 x1 x2 x3 x4 x5 x6 x7 x8 x9 x10 x11 x12 : Option Sl} {p q : List PV} {l : PEnv} : extE 13 (.t (.own q)) ss (x0 :: x1 :: x2 :: x3 :: x4 :: x5 :: x6 :: x7 :: x8 :: x9 :: x10 :: x11 :: x12 :: some (.own p) :: l) F = extK p q (exs F ss (x0 :: x1 :: x2 :: x3 :: x4 :: x5 :: x6 :: x7 :: x8 :: x9 :: x10 :: x11 :: x12 :: some (.own (p ++ q)) :: l)) := Eq.trans rfl rfl
theorem setE_13 {x0 x1 x2 x3 x4 x5 x6 x7 x8 x9 x10 x11 x12 : Option Sl} {x : Option Sl} {s : Sl} {l : PEnv} : setE 13 s ss (x0 :: x1 :: x2 :: x3 :: x4 :: x5 :: x6 :: x7 :: x8 :: x9 :: x10 :: x11 :: x12 :: x :: l) F = exs F ss (x0 :: x1 :: x2 :: x3 :: x4 :: x5 :: x6 :: x7 :: x8 :: x9 :: x10 :: x11 :: x12 :: some s :: l) := Eq.trans rfl rfl
theorem s_app14 {x0 x1 x2 x3 x4 x5 x6 x7 x8 x9 x10 x11 x12 x13 : Option Sl} {p : List PV} {l : PEnv} {e : E} : exs F (.cons (.app 14 e) ss) (x0 :: x1 :: x2 :: x3 :: x4 :: x5 :: x6 :: x7 :: x8 :: x9 :: x10 :: x11 :: x12 :: x13 :: some (.own p) :: l) = (ev F e (x0 :: x1 :: x2 :: x3 :: x4 :: x5 :: x6 :: x7 :: x8 :: x9 :: x10 :: x11 :: x12 :: x13 :: some (.own p) :: l)).bind fun r => (fix r.2 r.1).bind fun q => appE 14 q.1 ss q.2 F := by
  rw [exs_cons']
  show ((ev F e (x0 :: x1 :: x2 :: x3 :: x4 :: x5 :: x6 :: x7 :: x8 :: x9 :: x10 :: x11 :: x12 :: x13 :: some (.own p) :: l)).bind _).bind _ = _
  rw [bind_as]
  congr; funext r
  rw [bind_as]
  congr; funext q
  unfold appE
  cases q.2.getD 14 none with
  | none => rfl
  | some s =>
    cases s with
    | sh p => rfl
    | own xs =>
      dsimp only
      split <;> rfl
theorem appE_14 {x0 x1 x2 x3 x4 x5 x6 x7 x8 x9 x10 x11 x12 x13 : Option Sl} {p : List PV} {q : PV} {l : PEnv} : appE 14 q ss (x0 :: x1 :: x2 :: x3 :: x4 :: x5 :: x6 :: x7 :: x8 :: x9 :: x10 :: x11 :: x12 :: x13 :: some (.own p) :: l) F = appK p (exs F ss (x0 :: x1 :: x2 :: x3 :: x4 :: x5 :: x6 :: x7 :: x8 :: x9 :: x10 :: x11 :: x12 :: x13 :: some (.own (p ++ [q])) :: l)) := Eq.trans rfl rfl
theorem s_ext14 {x0 x1 x2 x3 x4 x5 x6 x7 x8 x9 x10 x11 x12 x13 : Option Sl} {p : List PV} {l : PEnv} {e : E} : exs F (.cons (.ext 14 e) ss) (x0 :: x1 :: x2 :: x3 :: x4 :: x5 :: x6 :: x7 :: x8 :: x9 :: x10 :: x11 :: x12 :: x13 :: some (.own p) :: l) = (ev F e (x0 :: x1 :: x2 :: x3 :: x4 :: x5 :: x6 :: x7 :: x8 :: x9 :: x10 :: x11 :: x12 :: x13 :: some (.own p) :: l)).bind fun r => extE 14 r.1 ss r.2 F := by
  rw [exs_cons']
  show ((ev F e (x0 :: x1 :: x2 :: x3 :: x4 :: x5 :: x6 :: x7 :: x8 :: x9 :: x10 :: x11 :: x12 :: x13 :: some (.own p) :: l)).bind _).bind _ = _
  rw [bind_as]
  congr; funext r
  unfold extE
  cases slb r.2 r.1 with
  | none => rfl
  | some t =>
    cases t with
    | sh p => rfl
    | own ys =>
      cases r.2.getD 14 none with
      | none => rfl
      | some s =>
        cases s with
        | sh p => rfl
        | own xs =>
          dsimp only
          split <;> rfl
theorem extE_14 {x0 x1 x2 x3 x4 x5 x6 x7 x8 x9 x10 x11 x12 x13 : Option Sl} {p q : List PV} {l : PEnv} : extE 14 (.t (.own q)) ss (x0 :: x1 :: x2 :: x3 :: x4 :: x5 :: x6 :: x7 :: x8 :: x9 :: x10 :: x11 :: x12 :: x13 :: some (.own p) :: l) F = extK p q (exs F ss (x0 :: x1 :: x2 :: x3 :: x4 :: x5 :: x6 :: x7 :: x8 :: x9 :: x10 :: x11 :: x12 :: x13 :: some (.own (p ++ q)) :: l)) := Eq.trans rfl rfl
theorem setE_14 {x0 x1 x2 x3 x4 x5 x6 x7 x8 x9 x10 x11 x12 x13 : Option Sl} {x : Option Sl} {s : Sl} {l : PEnv} : setE 14 s ss (x0 :: x1 :: x2 :: x3 :: x4 :: x5 :: x6 :: x7 :: x8 :: x9 :: x10 :: x11 :: x12 :: x13 :: x :: l) F = exs F ss (x0 :: x1 :: x2 :: x3 :: x4 :: x5 :: x6 :: x7 :: x8 :: x9 :: x10 :: x11 :: x12 :: x13 :: some s :: l) := Eq.trans rfl rfl
theorem s_app15 {x0 x1 x2 x3 x4 x5 x6 x7 x8 x9 x10 x11 x12 x13 x14 : Option Sl} {p : List PV} {l : PEnv} {e : E} : exs F (.cons (.app 15 e) ss) (x0 :: x1 :: x2 :: x3 :: x4 :: x5 :: x6 :: x7 :: x8 :: x9 :: x10 :: x11 :: x12 :: x13 :: x14 :: some (.own p) :: l) = (ev F e (x0 :: x1 :: x2 :: x3 :: x4 :: x5 :: x6 :: x7 :: x8 :: x9 :: x10 :: x11 :: x12 :: x13 :: x14 :: some (.own p) :: l)).bind fun r => (fix r.2 r.1).bind fun q => appE 15 q.1 ss q.2 F := by
  rw [exs_cons']
  show ((ev F e (x0 :: x1 :: x2 :: x3 :: x4 :: x5 :: x6 :: x7 :: x8 :: x9 :: x10 :: x11 :: x12 :: x13 :: x14 :: some (.own p) :: l)).bind _).bind _ = _
  rw [bind_as]
  congr; funext r
  rw [bind_as]
  congr; funext q
  unfold appE
  cases q.2.getD 15 none with
  | none => rfl
  | some s =>
    cases s with
    | sh p => rfl
    | own xs =>
      dsimp only
      split <;> rfl
theorem appE_15 {x0 x1 x2 x3 x4 x5 x6 x7 x8 x9 x10 x11 x12 x13 x14 : Option Sl} {p : List PV} {q : PV} {l : PEnv} : appE 15 q ss (x0 :: x1 :: x2 :: x3 :: x4 :: x5 :: x6 :: x7 :: x8 :: x9 :: x10 :: x11 :: x12 :: x13 :: x14 :: some (.own p) :: l) F = appK p (exs F ss (x0 :: x1 :: x2 :: x3 :: x4 :: x5 :: x6 :: x7 :: x8 :: x9 :: x10 :: x11 :: x12 :: x13 :: x14 :: some (.own (p ++ [q])) :: l)) := Eq.trans rfl rfl
theorem s_ext15 {x0 x1 x2 x3 x4 x5 x6 x7 x8 x9 x10 x11 x12 x13 x14 : Option Sl} {p : List PV} {l : PEnv} {e : E} : exs F (.cons (.ext 15 e) ss) (x0 :: x1 :: x2 :: x3 :: x4 :: x5 :: x6 :: x7 :: x8 :: x9 :: x10 :: x11 :: x12 :: x13 :: x14 :: some (.own p) :: l) = (ev F e (x0 :: x1 :: x2 :: x3 :: x4 :: x5 :: x6 :: x7 :: x8 :: x9 :: x10 :: x11 :: x12 :: x13 :: x14 :: some (.own p) :: l)).bind fun r => extE 15 r.1 ss r.2 F := by
  rw [exs_cons']
  show ((ev F e (x0 :: x1 :: x2 :: x3 :: x4 :: x5 :: x6 :: x7 :: x8 :: x9 :: x10 :: x11 :: x12 :: x13 :: x14 :: some (.own p) :: l)).bind _).bind _ = _
  rw [bind_as]
  congr; funext r
  unfold extE
  cases slb r.2 r.1 with
  | none => rfl
  | some t =>
    cases t with
    | sh p => rfl
    | own ys =>
      cases r.2.getD 15 none with
      | none => rfl
      | some s =>
        cases s with
        | sh p => rfl
        | own xs =>
          dsimp only
          split <;> rfl
theorem extE_15 {x0 x1 x2 x3 x4 x5 x6 x7 x8 x9 x10 x11 x12 x13 x14 : Option Sl} {p q : List PV} {l : PEnv} : extE 15 (.t (.own q)) ss (x0 :: x1 :: x2 :: x3 :: x4 :: x5 :: x6 :: x7 :: x8 :: x9 :: x10 :: x11 :: x12 :: x13 :: x14 :: some (.own p) :: l) F = extK p q (exs F ss (x0 :: x1 :: x2 :: x3 :: x4 :: x5 :: x6 :: x7 :: x8 :: x9 :: x10 :: x11 :: x12 :: x13 :: x14 :: some (.own (p ++ q)) :: l)) := Eq.trans rfl rfl
theorem setE_15 {x0 x1 x2 x3 x4 x5 x6 x7 x8 x9 x10 x11 x12 x13 x14 : Option Sl} {x : Option Sl} {s : Sl} {l : PEnv} : setE 15 s ss (x0 :: x1 :: x2 :: x3 :: x4 :: x5 :: x6 :: x7 :: x8 :: x9 :: x10 :: x11 :: x12 :: x13 :: x14 :: x :: l) F = exs F ss (x0 :: x1 :: x2 :: x3 :: x4 :: x5 :: x6 :: x7 :: x8 :: x9 :: x10 :: x11 :: x12 :: x13 :: x14 :: some s :: l) := Eq.trans rfl rfl
theorem s_app16 {x0 x1 x2 x3 x4 x5 x6 x7 x8 x9 x10 x11 x12 x13 x14 x15 : Option Sl} {p : List PV} {l : PEnv} {e : E} : exs F (.cons (.app 16 e) ss) (x0 :: x1 :: x2 :: x3 :: x4 :: x5 :: x6 :: x7 :: x8 :: x9 :: x10 :: x11 :: x12 :: x13 :: x14 :: x15 :: some (.own p) :: l) = (ev F e (x0 :: x1 :: x2 :: x3 :: x4 :: x5 :: x6 :: x7 :: x8 :: x9 :: x10 :: x11 :: x12 :: x13 :: x14 :: x15 :: some (.own p) :: l)).bind fun r => (fix r.2 r.1).bind fun q => appE 16 q.1 ss q.2 F := by
  rw [exs_cons']
  show ((ev F e (x0 :: x1 :: x2 :: x3 :: x4 :: x5 :: x6 :: x7 :: x8 :: x9 :: x10 :: x11 :: x12 :: x13 :: x14 :: x15 :: some (.own p) :: l)).bind _).bind _ = _
  rw [bind_as]
  congr; funext r
  rw [bind_as]
  congr; funext q
  unfold appE
  cases q.2.getD 16 none with
  | none => rfl
  | some s =>
    cases s with
    | sh p => rfl
    | own xs =>
      dsimp only
      split <;> rfl
theorem appE_16 {x0 x1 x2 x3 x4 x5 x6 x7 x8 x9 x10 x11 x12 x13 x14 x15 : Option Sl} {p : List PV} {q : PV} {l : PEnv} : appE 16 q ss (x0 :: x1 :: x2 :: x3 :: x4 :: x5 :: x6 :: x7 :: x8 :: x9 :: x10 :: x11 :: x12 :: x13 :: x14 :: x15 :: some (.own p) :: l) F = appK p (exs F ss (x0 :: x1 :: x2 :: x3 :: x4 :: x5 :: x6 :: x7 :: x8 :: x9 :: x10 :: x11 :: x12 :: x13 :: x14 :: x15 :: some (.own (p ++ [q])) :: l)) := Eq.trans rfl rfl
theorem s_ext16 {x0 x1 x2 x3 x4 x5 x6 x7 x8 x9 x10 x11 x12 x13 x14 x15 : Option Sl} {p : List PV} {l : PEnv} {e : E} : exs F (.cons (.ext 16 e) ss) (x0 :: x1 :: x2 :: x3 :: x4 :: x5 :: x6 :: x7 :: x8 :: x9 :: x10 :: x11 :: x12 :: x13 :: x14 :: x15 :: some (.own p) :: l) = (ev F e (x0 :: x1 :: x2 :: x3 :: x4 :: x5 :: x6 :: x7 :: x8 :: x9 :: x10 :: x11 :: x12 :: x13 :: x14 :: x15 :: some (.own p) :: l)).bind fun r => extE 16 r.1 ss r.2 F := by
  rw [exs_cons']
  show ((ev F e (x0 :: x1 :: x2 :: x3 :: x4 :: x5 :: x6 :: x7 :: x8 :: x9 :: x10 :: x11 :: x12 :: x13 :: x14 :: x15 :: some (.own p) :: l)).bind _).bind _ = _
  rw [bind_as]
  congr; funext r
  unfold extE
  cases slb r.2 r.1 with
  | none => rfl
  | some t =>
    cases t with
    | sh p => rfl
    | own ys =>
      cases r.2.getD 16 none with
      | none => rfl
      | some s =>
        cases s with
        | sh p => rfl
        | own xs =>
          dsimp only
          split <;> rfl
theorem extE_16 {x0 x1 x2 x3 x4 x5 x6 x7 x8 x9 x10 x11 x12 x13 x14 x15 : Option Sl} {p q : List PV} {l : PEnv} : extE 16 (.t (.own q)) ss (x0 :: x1 :: x2 :: x3 :: x4 :: x5 :: x6 :: x7 :: x8 :: x9 :: x10 :: x11 :: x12 :: x13 :: x14 :: x15 :: some (.own p) :: l) F = extK p q (exs F ss (x0 :: x1 :: x2 :: x3 :: x4 :: x5 :: x6 :: x7 :: x8 :: x9 :: x10 :: x11 :: x12 :: x13 :: x14 :: x15 :: some (.own (p ++ q)) :: l)) := Eq.trans rfl rfl
theorem setE_16 {x0 x1 x2 x3 x4 x5 x6 x7 x8 x9 x10 x11 x12 x13 x14 x15 : Option Sl} {x : Option Sl} {s : Sl} {l : PEnv} : setE 16 s ss (x0 :: x1 :: x2 :: x3 :: x4 :: x5 :: x6 :: x7 :: x8 :: x9 :: x10 :: x11 :: x12 :: x13 :: x14 :: x15 :: x :: l) F = exs F ss (x0 :: x1 :: x2 :: x3 :: x4 :: x5 :: x6 :: x7 :: x8 :: x9 :: x10 :: x11 :: x12 :: x13 :: x14 :: x15 :: some s :: l) := Eq.trans rfl rfl
theorem s_app17 {x0 x1 x2 x3 x4 x5 x6 x7 x8 x9 x10 x11 x12 x13 x14 x15 x16 : Option Sl} {p : List PV} {l : PEnv} {e : E} : exs F (.cons (.app 17 e) ss) (x0 :: x1 :: x2 :: x3 :: x4 :: x5 :: x6 :: x7 :: x8 :: x9 :: x10 :: x11 :: x12 :: x13 :: x14 :: x15 :: x16 :: some (.own p) :: l) = (ev F e (x0 :: x1 :: x2 :: x3 :: x4 :: x5 :: x6 :: x7 :: x8 :: x9 :: x10 :: x11 :: x12 :: x13 :: x14 :: x15 :: x16 :: some (.own p) :: l)).bind fun r => (fix r.2 r.1).bind fun q => appE 17 q.1 ss q.2 F := by
  rw [exs_cons']
  show ((ev F e (x0 :: x1 :: x2 :: x3 :: x4 :: x5 :: x6 :: x7 :: x8 :: x9 :: x10 :: x11 :: x12 :: x13 :: x14 :: x15 :: x16 :: some (.own p) :: l)).bind _).bind _ = _
  rw [bind_as]
  congr; funext r
  rw [bind_as]
  congr; funext q
  unfold appE
  cases q.2.getD 17 none with
  | none => rfl
  | some s =>
    cases s with
    | sh p => rfl
    | own xs =>
      dsimp only
      split <;> rfl
theorem appE_17 {x0 x1 x2 x3 x4 x5 x6 x7 x8 x9 x10 x11 x12 x13 x14 x15 x16 : Option Sl} {p : List PV} {q : PV} {l : PEnv} : appE 17 q ss (x0 :: x1 :: x2 :: x3 :: x4 :: x5 :: x6 :: x7 :: x8 :: x9 :: x10 :: x11 :: x12 :: x13 :: x14 :: x15 :: x16 :: some (.own p) :: l) F = appK p (exs F ss (x0 :: x1 :: x2 :: x3 :: x4 :: x5 :: x6 :: x7 :: x8 :: x9 :: x10 :: x11 :: x12 :: x13 :: x14 :: x15 :: x16 :: some (.own (p ++ [q])) :: l)) := Eq.trans rfl rfl
theorem s_ext17 {x0 x1 x2 x3 x4 x5 x6 x7 x8 x9 x10 x11 x12 x13 x14 x15 x16 : Option Sl} {p : List PV} {l : PEnv} {e : E} : exs F (.cons (.ext 17 e) ss) (x0 :: x1 :: x2 :: x3 :: x4 :: x5 :: x6 :: x7 :: x8 :: x9 :: x10 :: x11 :: x12 :: x13 :: x14 :: x15 :: x16 :: some (.own p) :: l) = (ev F e (x0 :: x1 :: x2 :: x3 :: x4 :: x5 :: x6 :: x7 :: x8 :: x9 :: x10 :: x11 :: x12 :: x13 :: x14 :: x15 :: x16 :: some (.own p) :: l)).bind fun r => extE 17 r.1 ss r.2 F := by
  rw [exs_cons']
  show ((ev F e (x0 :: x1 :: x2 :: x3 :: x4 :: x5 :: x6 :: x7 :: x8 :: x9 :: x10 :: x11 :: x12 :: x13 :: x14 :: x15 :: x16 :: some (.own p) :: l)).bind _).bind _ = _
  rw [bind_as]
  congr; funext r
  unfold extE
  cases slb r.2 r.1 with
  | none => rfl
  | some t =>
    cases t with
    | sh p => rfl
    | own ys =>
      cases r.2.getD 17 none with
      | none => rfl
      | some s =>
        cases s with
        | sh p => rfl
        | own xs =>
          dsimp only
          split <;> rfl
theorem extE_17 {x0 x1 x2 x3 x4 x5 x6 x7 x8 x9 x10 x11 x12 x13 x14 x15 x16 : Option Sl} {p q : List PV} {l : PEnv} : extE 17 (.t (.own q)) ss (x0 :: x1 :: x2 :: x3 :: x4 :: x5 :: x6 :: x7 :: x8 :: x9 :: x10 :: x11 :: x12 :: x13 :: x14 :: x15 :: x16 :: some (.own p) :: l) F = extK p q (exs F ss (x0 :: x1 :: x2 :: x3 :: x4 :: x5 :: x6 :: x7 :: x8 :: x9 :: x10 :: x11 :: x12 :: x13 :: x14 :: x15 :: x16 :: some (.own (p ++ q)) :: l)) := Eq.trans rfl rfl
theorem setE_17 {x0 x1 x2 x3 x4 x5 x6 x7 x8 x9 x10 x11 x12 x13 x14 x15 x16 : Option Sl} {x : Option Sl} {s : Sl} {l : PEnv} : setE 17 s ss (x0 :: x1 :: x2 :: x3 :: x4 :: x5 :: x6 :: x7 :: x8 :: x9 :: x10 :: x11 :: x12 :: x13 :: x14 :: x15 :: x16 :: x :: l) F = exs F ss (x0 :: x1 :: x2 :: x3 :: x4 :: x5 :: x6 :: x7 :: x8 :: x9 :: x10 :: x11 :: x12 :: x13 :: x14 :: x15 :: x16 :: some s :: l) := Eq.trans rfl rfl
theorem s_app18 {x0 x1 x2 x3 x4 x5 x6 x7 x8 x9 x10 x11 x12 x13 x14 x15 x16 x17 : Option Sl} {p : List PV} {l : PEnv} {e : E} : exs F (.cons (.app 18 e) ss) (x0 :: x1 :: x2 :: x3 :: x4 :: x5 :: x6 :: x7 :: x8 :: x9 :: x10 :: x11 :: x12 :: x13 :: x14 :: x15 :: x16 :: x17 :: some (.own p) :: l) = (ev F e (x0 :: x1 :: x2 :: x3 :: x4 :: x5 :: x6 :: x7 :: x8 :: x9 :: x10 :: x11 :: x12 :: x13 :: x14 :: x15 :: x16 :: x17 :: some (.own p) :: l)).bind fun r => (fix r.2 r.1).bind fun q => appE 18 q.1 ss q.2 F := by
  rw [exs_cons']
  show ((ev F e (x0 :: x1 :: x2 :: x3 :: x4 :: x5 :: x6 :: x7 :: x8 :: x9 :: x10 :: x11 :: x12 :: x13 :: x14 :: x15 :: x16 :: x17 :: some (.own p) :: l)).bind _).bind _ = _
  rw [bind_as]
  congr; funext r
  rw [bind_as]
  congr; funext q
  unfold appE
  cases q.2.getD 18 none with
  | none => rfl
  | some s =>
    cases s with
    | sh p => rfl
    | own xs =>
      dsimp only
      split <;> rfl
theorem appE_18 {x0 x1 x2 x3 x4 x5 x6 x7 x8 x9 x10 x11 x12 x13 x14 x15 x16 x17 : Option Sl} {p : List PV} {q : PV} {l : PEnv} : appE 18 q ss (x0 :: x1 :: x2 :: x3 :: x4 :: x5 :: x6 :: x7 :: x8 :: x9 :: x10 :: x11 :: x12 :: x13 :: x14 :: x15 :: x16 :: x17 :: some (.own p) :: l) F = appK p (exs F ss (x0 :: x1 :: x2 :: x3 :: x4 :: x5 :: x6 :: x7 :: x8 :: x9 :: x10 :: x11 :: x12 :: x13 :: x14 :: x15 :: x16 :: x17 :: some (.own (p ++ [q])) :: l)) := Eq.trans rfl rfl
theorem s_ext18 {x0 x1 x2 x3 x4 x5 x6 x7 x8 x9 x10 x11 x12 x13 x14 x15 x16 x17 : Option Sl} {p : List PV} {l : PEnv} {e : E} : exs F (.cons (.ext 18 e) ss) (x0 :: x1 :: x2 :: x3 :: x4 :: x5 :: x6 :: x7 :: x8 :: x9 :: x10 :: x11 :: x12 :: x13 :: x14 :: x15 :: x16 :: x17 :: some (.own p) :: l) = (ev F e (x0 :: x1 :: x2 :: x3 :: x4 :: x5 :: x6 :: x7 :: x8 :: x9 :: x10 :: x11 :: x12 :: x13 :: x14 :: x15 :: x16 :: x17 :: some (.own p) :: l)).bind fun r => extE 18 r.1 ss r.2 F := by
  rw [exs_cons']
  show ((ev F e (x0 :: x1 :: x2 :: x3 :: x4 :: x5 :: x6 :: x7 :: x8 :: x9 :: x10 :: x11 :: x12 :: x13 :: x14 :: x15 :: x16 :: x17 :: some (.own p) :: l)).bind _).bind _ = _
  rw [bind_as]
  congr; funext r
  unfold extE
  cases slb r.2 r.1 with
  | none => rfl
  | some t =>
    cases t with
    | sh p => rfl
    | own ys =>
      cases r.2.getD 18 none with
      | none => rfl
      | some s =>
        cases s with
        | sh p => rfl
        | own xs =>
          dsimp only
          split <;> rfl
theorem extE_18 {x0 x1 x2 x3 x4 x5 x6 x7 x8 x9 x10 x11 x12 x13 x14 x15 x16 x17 : Option Sl} {p q : List PV} {l : PEnv} : extE 18 (.t (.own q)) ss (x0 :: x1 :: x2 :: x3 :: x4 :: x5 :: x6 :: x7 :: x8 :: x9 :: x10 :: x11 :: x12 :: x13 :: x14 :: x15 :: x16 :: x17 :: some (.own p) :: l) F = extK p q (exs F ss (x0 :: x1 :: x2 :: x3 :: x4 :: x5 :: x6 :: x7 :: x8 :: x9 :: x10 :: x11 :: x12 :: x13 :: x14 :: x15 :: x16 :: x17 :: some (.own (p ++ q)) :: l)) := Eq.trans rfl rfl
theorem setE_18 {x0 x1 x2 x3 x4 x5 x6 x7 x8 x9 x10 x11 x12 x13 x14 x15 x16 x17 : Option Sl} {x : Option Sl} {s : Sl} {l : PEnv} : setE 18 s ss (x0 :: x1 :: x2 :: x3 :: x4 :: x5 :: x6 :: x7 :: x8 :: x9 :: x10 :: x11 :: x12 :: x13 :: x14 :: x15 :: x16 :: x17 :: x :: l) F = exs F ss (x0 :: x1 :: x2 :: x3 :: x4 :: x5 :: x6 :: x7 :: x8 :: x9 :: x10 :: x11 :: x12 :: x13 :: x14 :: x15 :: x16 :: x17 :: some s :: l) := Eq.trans rfl rfl
theorem s_app19 {x0 x1 x2 x3 x4 x5 x6 x7 x8 x9 x10 x11 x12 x13 x14 x15 x16 x17 x18 : Option Sl} {p : List PV} {l : PEnv} {e : E} : exs F (.cons (.app 19 e) ss) (x0 :: x1 :: x2 :: x3 :: x4 :: x5 :: x6 :: x7 :: x8 :: x9 :: x10 :: x11 :: x12 :: x13 :: x14 :: x15 :: x16 :: x17 :: x18 :: some (.own p) :: l) = (ev F e (x0 :: x1 :: x2 :: x3 :: x4 :: x5 :: x6 :: x7 :: x8 :: x9 :: x10 :: x11 :: x12 :: x13 :: x14 :: x15 :: x16 :: x17 :: x18 :: some (.own p) :: l)).bind fun r => (fix r.2 r.1).bind fun q => appE 19 q.1 ss q.2 F := by
  rw [exs_cons']
  show ((ev F e (x0 :: x1 :: x2 :: x3 :: x4 :: x5 :: x6 :: x7 :: x8 :: x9 :: x10 :: x11 :: x12 :: x13 :: x14 :: x15 :: x16 :: x17 :: x18 :: some (.own p) :: l)).bind _).bind _ = _
  rw [bind_as]
  congr; funext r
  rw [bind_as]
  congr; funext q
  unfold appE
  cases q.2.getD 19 none with
  | none => rfl
  | some s =>
    cases s with
    | sh p => rfl
    | own xs =>
      dsimp only
      split <;> rfl
theorem appE_19 {x0 x1 x2 x3 x4 x5 x6 x7 x8 x9 x10 x11 x12 x13 x14 x15 x16 x17 x18 : Option Sl} {p : List PV} {q : PV} {l : PEnv} : appE 19 q ss (x0 :: x1 :: x2 :: x3 :: x4 :: x5 :: x6 :: x7 :: x8 :: x9 :: x10 :: x11 :: x12 :: x13 :: x14 :: x15 :: x16 :: x17 :: x18 :: some (.own p) :: l) F = appK p (exs F ss (x0 :: x1 :: x2 :: x3 :: x4 :: x5 :: x6 :: x7 :: x8 :: x9 :: x10 :: x11 :: x12 :: x13 :: x14 :: x15 :: x16 :: x17 :: x18 :: some (.own (p ++ [q])) :: l)) := Eq.trans rfl rfl
theorem s_ext19 {x0 x1 x2 x3 x4 x5 x6 x7 x8 x9 x10 x11 x12 x13 x14 x15 x16 x17 x18 : Option Sl} {p : List PV} {l : PEnv} {e : E} : exs F (.cons (.ext 19 e) ss) (x0 :: x1 :: x2 :: x3 :: x4 :: x5 :: x6 :: x7 :: x8 :: x9 :: x10 :: x11 :: x12 :: x13 :: x14 :: x15 :: x16 :: x17 :: x18 :: some (.own p) :: l) = (ev F e (x0 :: x1 :: x2 :: x3 :: x4 :: x5 :: x6 :: x7 :: x8 :: x9 :: x10 :: x11 :: x12 :: x13 :: x14 :: x15 :: x16 :: x17 :: x18 :: some (.own p) :: l)).bind fun r => extE 19 r.1 ss r.2 F := by
  rw [exs_cons']
  show ((ev F e (x0 :: x1 :: x2 :: x3 :: x4 :: x5 :: x6 :: x7 :: x8 :: x9 :: x10 :: x11 :: x12 :: x13 :: x14 :: x15 :: x16 :: x17 :: x18 :: some (.own p) :: l)).bind _).bind _ = _
  rw [bind_as]
  congr; funext r
  unfold extE
  cases slb r.2 r.1 with
  | none => rfl
  | some t =>
    cases t with
    | sh p => rfl
    | own ys =>
      cases r.2.getD 19 none with
      | none => rfl
      | some s =>
        cases s with
        | sh p => rfl
        | own xs =>
          dsimp only
          split <;> rfl
theorem extE_19 {x0 x1 x2 x3 x4 x5 x6 x7 x8 x9 x10 x11 x12 x13 x14 x15 x16 x17 x18 : Option Sl} {p q : List PV} {l : PEnv} : extE 19 (.t (.own q)) ss (x0 :: x1 :: x2 :: x3 :: x4 :: x5 :: x6 :: x7 :: x8 :: x9 :: x10 :: x11 :: x12 :: x13 :: x14 :: x15 :: x16 :: x17 :: x18 :: some (.own p) :: l) F = extK p q (exs F ss (x0 :: x1 :: x2 :: x3 :: x4 :: x5 :: x6 :: x7 :: x8 :: x9 :: x10 :: x11 :: x12 :: x13 :: x14 :: x15 :: x16 :: x17 :: x18 :: some (.own (p ++ q)) :: l)) := Eq.trans rfl rfl
theorem setE_19 {x0 x1 x2 x3 x4 x5 x6 x7 x8 x9 x10 x11 x12 x13 x14 x15 x16 x17 x18 : Option Sl} {x : Option Sl} {s : Sl} {l : PEnv} : setE 19 s ss (x0 :: x1 :: x2 :: x3 :: x4 :: x5 :: x6 :: x7 :: x8 :: x9 :: x10 :: x11 :: x12 :: x13 :: x14 :: x15 :: x16 :: x17 :: x18 :: x :: l) F = exs F ss (x0 :: x1 :: x2 :: x3 :: x4 :: x5 :: x6 :: x7 :: x8 :: x9 :: x10 :: x11 :: x12 :: x13 :: x14 :: x15 :: x16 :: x17 :: x18 :: some s :: l) := Eq.trans rfl rfl
theorem s_app20 {x0 x1 x2 x3 x4 x5 x6 x7 x8 x9 x10 x11 x12 x13 x14 x15 x16 x17 x18 x19 : Option Sl} {p : List PV} {l : PEnv} {e : E} : exs F (.cons (.app 20 e) ss) (x0 :: x1 :: x2 :: x3 :: x4 :: x5 :: x6 :: x7 :: x8 :: x9 :: x10 :: x11 :: x12 :: x13 :: x14 :: x15 :: x16 :: x17 :: x18 :: x19 :: some (.own p) :: l) = (ev F e (x0 :: x1 :: x2 :: x3 :: x4 :: x5 :: x6 :: x7 :: x8 :: x9 :: x10 :: x11 :: x12 :: x13 :: x14 :: x15 :: x16 :: x17 :: x18 :: x19 :: some (.own p) :: l)).bind fun r => (fix r.2 r.1).bind fun q => appE 20 q.1 ss q.2 F := by
  rw [exs_cons']
  show ((ev F e (x0 :: x1 :: x2 :: x3 :: x4 :: x5 :: x6 :: x7 :: x8 :: x9 :: x10 :: x11 :: x12 :: x13 :: x14 :: x15 :: x16 :: x17 :: x18 :: x19 :: some (.own p) :: l)).bind _).bind _ = _
  rw [bind_as]
  congr; funext r
  rw [bind_as]
  congr; funext q
  unfold appE
  cases q.2.getD 20 none with
  | none => rfl
  | some s =>
    cases s with
    | sh p => rfl
    | own xs =>
      dsimp only
      split <;> rfl
theorem appE_20 {x0 x1 x2 x3 x4 x5 x6 x7 x8 x9 x10 x11 x12 x13 x14 x15 x16 x17 x18 x19 : Option Sl} {p : List PV} {q : PV} {l : PEnv} : appE 20 q ss (x0 :: x1 :: x2 :: x3 :: x4 :: x5 :: x6 :: x7 :: x8 :: x9 :: x10 :: x11 :: x12 :: x13 :: x14 :: x15 :: x16 :: x17 :: x18 :: x19 :: some (.own p) :: l) F = appK p (exs F ss (x0 :: x1 :: x2 :: x3 :: x4 :: x5 :: x6 :: x7 :: x8 :: x9 :: x10 :: x11 :: x12 :: x13 :: x14 :: x15 :: x16 :: x17 :: x18 :: x19 :: some (.own (p ++ [q])) :: l)) := Eq.trans rfl rfl
theorem s_ext20 {x0 x1 x2 x3 x4 x5 x6 x7 x8 x9 x10 x11 x12 x13 x14 x15 x16 x17 x18 x19 : Option Sl} {p : List PV} {l : PEnv} {e : E} : exs F (.cons (.ext 20 e) ss) (x0 :: x1 :: x2 :: x3 :: x4 :: x5 :: x6 :: x7 :: x8 :: x9 :: x10 :: x11 :: x12 :: x13 :: x14 :: x15 :: x16 :: x17 :: x18 :: x19 :: some (.own p) :: l) = (ev F e (x0 :: x1 :: x2 :: x3 :: x4 :: x5 :: x6 :: x7 :: x8 :: x9 :: x10 :: x11 :: x12 :: x13 :: x14 :: x15 :: x16 :: x17 :: x18 :: x19 :: some (.own p) :: l)).bind fun r => extE 20 r.1 ss r.2 F := by
  rw [exs_cons']
  show ((ev F e (x0 :: x1 :: x2 :: x3 :: x4 :: x5 :: x6 :: x7 :: x8 :: x9 :: x10 :: x11 :: x12 :: x13 :: x14 :: x15 :: x16 :: x17 :: x18 :: x19 :: some (.own p) :: l)).bind _).bind _ = _
  rw [bind_as]
  congr; funext r
  unfold extE
  cases slb r.2 r.1 with
  | none => rfl
  | some t =>
    cases t with
    | sh p => rfl
    | own ys =>
      cases r.2.getD 20 none with
      | none => rfl
      | some s =>
        cases s with
        | sh p => rfl
        | own xs =>
          dsimp only
          split <;> rfl
theorem extE_20 {x0 x1 x2 x3 x4 x5 x6 x7 x8 x9 x10 x11 x12 x13 x14 x15 x16 x17 x18 x19 : Option Sl} {p q : List PV} {l : PEnv} : extE 20 (.t (.own q)) ss (x0 :: x1 :: x2 :: x3 :: x4 :: x5 :: x6 :: x7 :: x8 :: x9 :: x10 :: x11 :: x12 :: x13 :: x14 :: x15 :: x16 :: x17 :: x18 :: x19 :: some (.own p) :: l) F = extK p q (exs F ss (x0 :: x1 :: x2 :: x3 :: x4 :: x5 :: x6 :: x7 :: x8 :: x9 :: x10 :: x11 :: x12 :: x13 :: x14 :: x15 :: x16 :: x17 :: x18 :: x19 :: some (.own (p ++ q)) :: l)) := Eq.trans rfl rfl
theorem setE_20 {x0 x1 x2 x3 x4 x5 x6 x7 x8 x9 x10 x11 x12 x13 x14 x15 x16 x17 x18 x19 : Option Sl} {x : Option Sl} {s : Sl} {l : PEnv} : setE 20 s ss (x0 :: x1 :: x2 :: x3 :: x4 :: x5 :: x6 :: x7 :: x8 :: x9 :: x10 :: x11 :: x12 :: x13 :: x14 :: x15 :: x16 :: x17 :: x18 :: x19 :: x :: l) F = exs F ss (x0 :: x1 :: x2 :: x3 :: x4 :: x5 :: x6 :: x7 :: x8 :: x9 :: x10 :: x11 :: x12 :: x13 :: x14 :: x15 :: x16 :: x17 :: x18 :: x19 :: some s :: l) := Eq.trans rfl rfl
theorem s_app21 {x0 x1 x2 x3 x4 x5 x6 x7 x8 x9 x10 x11 x12 x13 x14 x15 x16 x17 x18 x19 x20 : Option Sl} {p : List PV} {l : PEnv} {e : E} : exs F (.cons (.app 21 e) ss) (x0 :: x1 :: x2 :: x3 :: x4 :: x5 :: x6 :: x7 :: x8 :: x9 :: x10 :: x11 :: x12 :: x13 :: x14 :: x15 :: x16 :: x17 :: x18 :: x19 :: x20 :: some (.own p) :: l) = (ev F e (x0 :: x1 :: x2 :: x3 :: x4 :: x5 :: x6 :: x7 :: x8 :: x9 :: x10 :: x11 :: x12 :: x13 :: x14 :: x15 :: x16 :: x17 :: x18 :: x19 :: x20 :: some (.own p) :: l)).bind fun r => (fix r.2 r.1).bind fun q => appE 21 q.1 ss q.2 F := by
  rw [exs_cons']
  show ((ev F e (x0 :: x1 :: x2 :: x3 :: x4 :: x5 :: x6 :: x7 :: x8 :: x9 :: x10 :: x11 :: x12 :: x13 :: x14 :: x15 :: x16 :: x17 :: x18 :: x19 :: x20 :: some (.own p) :: l)).bind _).bind _ = _
  rw [bind_as]
  congr; funext r
  rw [bind_as]
  congr; funext q
  unfold appE
  cases q.2.getD 21 none with
  | none => rfl
  | some s =>
    cases s with
    | sh p => rfl
    | own xs =>
      dsimp only
      split <;> rfl
theorem appE_21 {x0 x1 x2 x3 x4 x5 x6 x7 x8 x9 x10 x11 x12 x13 x14 x15 x16 x17 x18 x19 x20 : Option Sl} {p : List PV} {q : PV} {l : PEnv} : appE 21 q ss (x0 :: x1 :: x2 :: x3 :: x4 :: x5 :: x6 :: x7 :: x8 :: x9 :: x10 :: x11 :: x12 :: x13 :: x14 :: x15 :: x16 :: x17 :: x18 :: x19 :: x20 :: some (.own p) :: l) F = appK p (exs F ss (x0 :: x1 :: x2 :: x3 :: x4 :: x5 :: x6 :: x7 :: x8 :: x9 :: x10 :: x11 :: x12 :: x13 :: x14 :: x15 :: x16 :: x17 :: x18 :: x19 :: x20 :: some (.own (p ++ [q])) :: l)) := Eq.trans rfl rfl
theorem s_ext21 {x0 x1 x2 x3 x4 x5 x6 x7 x8 x9 x10 x11 x12 x13 x14 x15 x16 x17 x18 x19 x20 : Option Sl} {p : List PV} {l : PEnv} {e : E} : exs F (.cons (.ext 21 e) ss) (x0 :: x1 :: x2 :: x3 :: x4 :: x5 :: x6 :: x7 :: x8 :: x9 :: x10 :: x11 :: x12 :: x13 :: x14 :: x15 :: x16 :: x17 :: x18 :: x19 :: x20 :: some (.own p) :: l) = (ev F e (x0 :: x1 :: x2 :: x3 :: x4 :: x5 :: x6 :: x7 :: x8 :: x9 :: x10 :: x11 :: x12 :: x13 :: x14 :: x15 :: x16 :: x17 :: x18 :: x19 :: x20 :: some (.own p) :: l)).bind fun r => extE 21 r.1 ss r.2 F := by
  rw [exs_cons']
  show ((ev F e (x0 :: x1 :: x2 :: x3 :: x4 :: x5 :: x6 :: x7 :: x8 :: x9 :: x10 :: x11 :: x12 :: x13 :: x14 :: x15 :: x16 :: x17 :: x18 :: x19 :: x20 :: some (.own p) :: l)).bind _).bind _ = _
  rw [bind_as]
  congr; funext r
  unfold extE
  cases slb r.2 r.1 with
  | none => rfl
  | some t =>
    cases t with
    | sh p => rfl
    | own ys =>
      cases r.2.getD 21 none with
      | none => rfl
      | some s =>
        cases s with
        | sh p => rfl
        | own xs =>
          dsimp only
          split <;> rfl
theorem extE_21 {x0 x1 x2 x3 x4 x5 x6 x7 x8 x9 x10 x11 x12 x13 x14 x15 x16 x17 x18 x19 x20 : Option Sl} {p q : List PV} {l : PEnv} : extE 21 (.t (.own q)) ss (x0 :: x1 :: x2 :: x3 :: x4 :: x5 :: x6 :: x7 :: x8 :: x9 :: x10 :: x11 :: x12 :: x13 :: x14 :: x15 :: x16 :: x17 :: x18 :: x19 :: x20 :: some (.own p) :: l) F = extK p q (exs F ss (x0 :: x1 :: x2 :: x3 :: x4 :: x5 :: x6 :: x7 :: x8 :: x9 :: x10 :: x11 :: x12 :: x13 :: x14 :: x15 :: x16 :: x17 :: x18 :: x19 :: x20 :: some (.own (p ++ q)) :: l)) := Eq.trans rfl rfl
theorem setE_21 {x0 x1 x2 x3 x4 x5 x6 x7 x8 x9 x10 x11 x12 x13 x14 x15 x16 x17 x18 x19 x20 : Option Sl} {x : Option Sl} {s : Sl} {l : PEnv} : setE 21 s ss (x0 :: x1 :: x2 :: x3 :: x4 :: x5 :: x6 :: x7 :: x8 :: x9 :: x10 :: x11 :: x12 :: x13 :: x14 :: x15 :: x16 :: x17 :: x18 :: x19 :: x20 :: x :: l) F = exs F ss (x0 :: x1 :: x2 :: x3 :: x4 :: x5 :: x6 :: x7 :: x8 :: x9 :: x10 :: x11 :: x12 :: x13 :: x14 :: x15 :: x16 :: x17 :: x18 :: x19 :: x20 :: some s :: l) := Eq.trans rfl rfl
theorem s_app22 {x0 x1 x2 x3 x4 x5 x6 x7 x8 x9 x10 x11 x12 x13 x14 x15 x16 x17 x18 x19 x20 x21 : Option Sl} {p : List PV} {l : PEnv} {e : E} : exs F (.cons (.app 22 e) ss) (x0 :: x1 :: x2 :: x3 :: x4 :: x5 :: x6 :: x7 :: x8 :: x9 :: x10 :: x11 :: x12 :: x13 :: x14 :: x15 :: x16 :: x17 :: x18 :: x19 :: x20 :: x21 :: some (.own p) :: l) = (ev F e (x0 :: x1 :: x2 :: x3 :: x4 :: x5 :: x6 :: x7 :: x8 :: x9 :: x10 :: x11 :: x12 :: x13 :: x14 :: x15 :: x16 :: x17 :: x18 :: x19 :: x20 :: x21 :: some (.own p) :: l)).bind fun r => (fix r.2 r.1).bind fun q => appE 22 q.1 ss q.2 F := by
  rw [exs_cons']
  show ((ev F e (x0 :: x1 :: x2 :: x3 :: x4 :: x5 :: x6 :: x7 :: x8 :: x9 :: x10 :: x11 :: x12 :: x13 :: x14 :: x15 :: x16 :: x17 :: x18 :: x19 :: x20 :: x21 :: some (.own p) :: l)).bind _).bind _ = _
  rw [bind_as]
  congr; funext r
  rw [bind_as]
  congr; funext q
  unfold appE
  cases q.2.getD 22 none with
  | none => rfl
  | some s =>
    cases s with
    | sh p => rfl
    | own xs =>
      dsimp only
      split <;> rfl
theorem appE_22 {x0 x1 x2 x3 x4 x5 x6 x7 x8 x9 x10 x11 x12 x13 x14 x15 x16 x17 x18 x19 x20 x21 : Option Sl} {p : List PV} {q : PV} {l : PEnv} : appE 22 q ss (x0 :: x1 :: x2 :: x3 :: x4 :: x5 :: x6 :: x7 :: x8 :: x9 :: x10 :: x11 :: x12 :: x13 :: x14 :: x15 :: x16 :: x17 :: x18 :: x19 :: x20 :: x21 :: some (.own p) :: l) F = appK p (exs F ss (x0 :: x1 :: x2 :: x3 :: x4 :: x5 :: x6 :: x7 :: x8 :: x9 :: x10 :: x11 :: x12 :: x13 :: x14 :: x15 :: x16 :: x17 :: x18 :: x19 :: x20 :: x21 :: some (.own (p ++ [q])) :: l)) := Eq.trans rfl rfl
theorem s_ext22 {x0 x1 x2 x3 x4 x5 x6 x7 x8 x9 x10 x11 x12 x13 x14 x15 x16 x17 x18 x19 x20 x21 : Option Sl} {p : List PV} {l : PEnv} {e : E} : exs F (.cons (.ext 22 e) ss) (x0 :: x1 :: x2 :: x3 :: x4 :: x5 :: x6 :: x7 :: x8 :: x9 :: x10 :: x11 :: x12 :: x13 :: x14 :: x15 :: x16 :: x17 :: x18 :: x19 :: x20 :: x21 :: some (.own p) :: l) = (ev F e (x0 :: x1 :: x2 :: x3 :: x4 :: x5 :: x6 :: x7 :: x8 :: x9 :: x10 :: x11 :: x12 :: x13 :: x14 :: x15 :: x16 :: x17 :: x18 :: x19 :: x20 :: x21 :: some (.own p) :: l)).bind fun r => extE 22 r.1 ss r.2 F := by
  rw [exs_cons']
  show ((ev F e (x0 :: x1 :: x2 :: x3 :: x4 :: x5 :: x6 :: x7 :: x8 :: x9 :: x10 :: x11 :: x12 :: x13 :: x14 :: x15 :: x16 :: x17 :: x18 :: x19 :: x20 :: x21 :: some (.own p) :: l)).bind _).bind _ = _
  rw [bind_as]
  congr; funext r
  unfold extE
  cases slb r.2 r.1 with
  | none => rfl
  | some t =>
    cases t with
    | sh p => rfl
    | own ys =>
      cases r.2.getD 22 none with
      | none => rfl
      | some s =>
        cases s with
        | sh p => rfl
        | own xs =>
          dsimp only
          split <;> rfl
theorem extE_22 {x0 x1 x2 x3 x4 x5 x6 x7 x8 x9 x10 x11 x12 x13 x14 x15 x16 x17 x18 x19 x20 x21 : Option Sl} {p q : List PV} {l : PEnv} : extE 22 (.t (.own q)) ss (x0 :: x1 :: x2 :: x3 :: x4 :: x5 :: x6 :: x7 :: x8 :: x9 :: x10 :: x11 :: x12 :: x13 :: x14 :: x15 :: x16 :: x17 :: x18 :: x19 :: x20 :: x21 :: some (.own p) :: l) F = extK p q (exs F ss (x0 :: x1 :: x2 :: x3 :: x4 :: x5 :: x6 :: x7 :: x8 :: x9 :: x10 :: x11 :: x12 :: x13 :: x14 :: x15 :: x16 :: x17 :: x18 :: x19 :: x20 :: x21 :: some (.own (p ++ q)) :: l)) := Eq.trans rfl rfl
theorem setE_22 {x0 x1 x2 x3 x4 x5 x6 x7 x8 x9 x10 x11 x12 x13 x14 x15 x16 x17 x18 x19 x20 x21 : Option Sl} {x : Option Sl} {s : Sl} {l : PEnv} : setE 22 s ss (x0 :: x1 :: x2 :: x3 :: x4 :: x5 :: x6 :: x7 :: x8 :: x9 :: x10 :: x11 :: x12 :: x13 :: x14 :: x15 :: x16 :: x17 :: x18 :: x19 :: x20 :: x21 :: x :: l) F = exs F ss (x0 :: x1 :: x2 :: x3 :: x4 :: x5 :: x6 :: x7 :: x8 :: x9 :: x10 :: x11 :: x12 :: x13 :: x14 :: x15 :: x16 :: x17 :: x18 :: x19 :: x20 :: x21 :: some s :: l) := Eq.trans rfl rfl
theorem s_app23 {x0 x1 x2 x3 x4 x5 x6 x7 x8 x9 x10 x11 x12 x13 x14 x15 x16 x17 x18 x19 x20 x21 x22 : Option Sl} {p : List PV} {l : PEnv} {e : E} : exs F (.cons (.app 23 e) ss) (x0 :: x1 :: x2 :: x3 :: x4 :: x5 :: x6 :: x7 :: x8 :: x9 :: x10 :: x11 :: x12 :: x13 :: x14 :: x15 :: x16 :: x17 :: x18 :: x19 :: x20 :: x21 :: x22 :: some (.own p) :: l) = (ev F e (x0 :: x1 :: x2 :: x3 :: x4 :: x5 :: x6 :: x7 :: x8 :: x9 :: x10 :: x11 :: x12 :: x13 :: x14 :: x15 :: x16 :: x17 :: x18 :: x19 :: x20 :: x21 :: x22 :: some (.own p) :: l)).bind fun r => (fix r.2 r.1).bind fun q => appE 23 q.1 ss q.2 F := by
  rw [exs_cons']
  show ((ev F e (x0 :: x1 :: x2 :: x3 :: x4 :: x5 :: x6 :: x7 :: x8 :: x9 :: x10 :: x11 :: x12 :: x13 :: x14 :: x15 :: x16 :: x17 :: x18 :: x19 :: x20 :: x21 :: x22 :: some (.own p) :: l)).bind _).bind _ = _
  rw [bind_as]
  congr; funext r
  rw [bind_as]
  congr; funext q
  unfold appE
  cases q.2.getD 23 none with
  | none => rfl
  | some s =>
    cases s with
    | sh p => rfl
    | own xs =>
      dsimp only
      split <;> rfl
theorem appE_23 {x0 x1 x2 x3 x4 x5 x6 x7 x8 x9 x10 x11 x12 x13 x14 x15 x16 x17 x18 x19 x20 x21 x22 : Option Sl} {p : List PV} {q : PV} {l : PEnv} : appE 23 q ss (x0 :: x1 :: x2 :: x3 :: x4 :: x5 :: x6 :: x7 :: x8 :: x9 :: x10 :: x11 :: x12 :: x13 :: x14 :: x15 :: x16 :: x17 :: x18 :: x19 :: x20 :: x21 :: x22 :: some (.own p) :: l) F = appK p (exs F ss (x0 :: x1 :: x2 :: x3 :: x4 :: x5 :: x6 :: x7 :: x8 :: x9 :: x10 :: x11 :: x12 :: x13 :: x14 :: x15 :: x16 :: x17 :: x18 :: x19 :: x20 :: x21 :: x22 :: some (.own (p ++ [q])) :: l)) := Eq.trans rfl rfl
theorem s_ext23 {x0 x1 x2 x3 x4 x5 x6 x7 x8 x9 x10 x11 x12 x13 x14 x15 x16 x17 x18 x19 x20 x21 x22 : Option Sl} {p : List PV} {l : PEnv} {e : E} : exs F (.cons (.ext 23 e) ss) (x0 :: x1 :: x2 :: x3 :: x4 :: x5 :: x6 :: x7 :: x8 :: x9 :: x10 :: x11 :: x12 :: x13 :: x14 :: x15 :: x16 :: x17 :: x18 :: x19 :: x20 :: x21 :: x22 :: some (.own p) :: l) = (ev F e (x0 :: x1 :: x2 :: x3 :: x4 :: x5 :: x6 :: x7 :: x8 :: x9 :: x10 :: x11 :: x12 :: x13 :: x14 :: x15 :: x16 :: x17 :: x18 :: x19 :: x20 :: x21 :: x22 :: some (.own p) :: l)).bind fun r => extE 23 r.1 ss r.2 F := by
  rw [exs_cons']
  show ((ev F e (x0 :: x1 :: x2 :: x3 :: x4 :: x5 :: x6 :: x7 :: x8 :: x9 :: x10 :: x11 :: x12 :: x13 :: x14 :: x15 :: x16 :: x17 :: x18 :: x19 :: x20 :: x21 :: x22 :: some (.own p) :: l)).bind _).bind _ = _
  rw [bind_as]
  congr; funext r
  unfold extE
  cases slb r.2 r.1 with
  | none => rfl
  | some t =>
    cases t with
    | sh p => rfl
    | own ys =>
      cases r.2.getD 23 none with
      | none => rfl
      | some s =>
        cases s with
        | sh p => rfl
        | own xs =>
          dsimp only
          split <;> rfl
theorem extE_23 {x0 x1 x2 x3 x4 x5 x6 x7 x8 x9 x10 x11 x12 x13 x14 x15 x16 x17 x18 x19 x20 x21 x22 : Option Sl} {p q : List PV} {l : PEnv} : extE 23 (.t (.own q)) ss (x0 :: x1 :: x2 :: x3 :: x4 :: x5 :: x6 :: x7 :: x8 :: x9 :: x10 :: x11 :: x12 :: x13 :: x14 :: x15 :: x16 :: x17 :: x18 :: x19 :: x20 :: x21 :: x22 :: some (.own p) :: l) F = extK p q (exs F ss (x0 :: x1 :: x2 :: x3 :: x4 :: x5 :: x6 :: x7 :: x8 :: x9 :: x10 :: x11 :: x12 :: x13 :: x14 :: x15 :: x16 :: x17 :: x18 :: x19 :: x20 :: x21 :: x22 :: some (.own (p ++ q)) :: l)) := Eq.trans rfl rfl
theorem setE_23 {x0 x1 x2 x3 x4 x5 x6 x7 x8 x9 x10 x11 x12 x13 x14 x15 x16 x17 x18 x19 x20 x21 x22 : Option Sl} {x : Option Sl} {s : Sl} {l : PEnv} : setE 23 s ss (x0 :: x1 :: x2 :: x3 :: x4 :: x5 :: x6 :: x7 :: x8 :: x9 :: x10 :: x11 :: x12 :: x13 :: x14 :: x15 :: x16 :: x17 :: x18 :: x19 :: x20 :: x21 :: x22 :: x :: l) F = exs F ss (x0 :: x1 :: x2 :: x3 :: x4 :: x5 :: x6 :: x7 :: x8 :: x9 :: x10 :: x11 :: x12 :: x13 :: x14 :: x15 :: x16 :: x17 :: x18 :: x19 :: x20 :: x21 :: x22 :: some s :: l) := Eq.trans rfl rfl
theorem s_app24 {x0 x1 x2 x3 x4 x5 x6 x7 x8 x9 x10 x11 x12 x13 x14 x15 x16 x17 x18 x19 x20 x21 x22 x23 : Option Sl} {p : List PV} {l : PEnv} {e : E} : exs F (.cons (.app 24 e) ss) (x0 :: x1 :: x2 :: x3 :: x4 :: x5 :: x6 :: x7 :: x8 :: x9 :: x10 :: x11 :: x12 :: x13 :: x14 :: x15 :: x16 :: x17 :: x18 :: x19 :: x20 :: x21 :: x22 :: x23 :: some (.own p) :: l) = (ev F e (x0 :: x1 :: x2 :: x3 :: x4 :: x5 :: x6 :: x7 :: x8 :: x9 :: x10 :: x11 :: x12 :: x13 :: x14 :: x15 :: x16 :: x17 :: x18 :: x19 :: x20 :: x21 :: x22 :: x23 :: some (.own p) :: l)).bind fun r => (fix r.2 r.1).bind fun q => appE 24 q.1 ss q.2 F := by
  rw [exs_cons']
  show ((ev F e (x0 :: x1 :: x2 :: x3 :: x4 :: x5 :: x6 :: x7 :: x8 :: x9 :: x10 :: x11 :: x12 :: x13 :: x14 :: x15 :: x16 :: x17 :: x18 :: x19 :: x20 :: x21 :: x22 :: x23 :: some (.own p) :: l)).bind _).bind _ = _
  rw [bind_as]
  congr; funext r
  rw [bind_as]
  congr; funext q
  unfold appE
  cases q.2.getD 24 none with
  | none => rfl
  | some s =>
    cases s with
    | sh p => rfl
    | own xs =>
      dsimp only
      split <;> rfl
theorem appE_24 {x0 x1 x2 x3 x4 x5 x6 x7 x8 x9 x10 x11 x12 x13 x14 x15 x16 x17 x18 x19 x20 x21 x22 x23 : Option Sl} {p : List PV} {q : PV} {l : PEnv} : appE 24 q ss (x0 :: x1 :: x2 :: x3 :: x4 :: x5 :: x6 :: x7 :: x8 :: x9 :: x10 :: x11 :: x12 :: x13 :: x14 :: x15 :: x16 :: x17 :: x18 :: x19 :: x20 :: x21 :: x22 :: x23 :: some (.own p) :: l) F = appK p (exs F ss (x0 :: x1 :: x2 :: x3 :: x4 :: x5 :: x6 :: x7 :: x8 :: x9 :: x10 :: x11 :: x12 :: x13 :: x14 :: x15 :: x16 :: x17 :: x18 :: x19 :: x20 :: x21 :: x22 :: x23 :: some (.own (p ++ [q])) :: l)) := Eq.trans rfl rfl
theorem s_ext24 {x0 x1 x2 x3 x4 x5 x6 x7 x8 x9 x10 x11 x12 x13 x14 x15 x16 x17 x18 x19 x20 x21 x22 x23 : Option Sl} {p : List PV} {l : PEnv} {e : E} : exs F (.cons (.ext 24 e) ss) (x0 :: x1 :: x2 :: x3 :: x4 :: x5 :: x6 :: x7 :: x8 :: x9 :: x10 :: x11 :: x12 :: x13 :: x14 :: x15 :: x16 :: x17 :: x18 :: x19 :: x20 :: x21 :: x22 :: x23 :: some (.own p) :: l) = (ev F e (x0 :: x1 :: x2 :: x3 :: x4 :: x5 :: x6 :: x7 :: x8 :: x9 :: x10 :: x11 :: x12 :: x13 :: x14 :: x15 :: x16 :: x17 :: x18 :: x19 :: x20 :: x21 :: x22 :: x23 :: some (.own p) :: l)).bind fun r => extE 24 r.1 ss r.2 F := by
  rw [exs_cons']
  show ((ev F e (x0 :: x1 :: x2 :: x3 :: x4 :: x5 :: x6 :: x7 :: x8 :: x9 :: x10 :: x11 :: x12 :: x13 :: x14 :: x15 :: x16 :: x17 :: x18 :: x19 :: x20 :: x21 :: x22 :: x23 :: some (.own p) :: l)).bind _).bind _ = _
  rw [bind_as]
  congr; funext r
  unfold extE
  cases slb r.2 r.1 with
  | none => rfl
  | some t =>
    cases t with
    | sh p => rfl
    | own ys =>
      cases r.2.getD 24 none with
      | none => rfl
      | some s =>
        cases s with
        | sh p => rfl
        | own xs =>
          dsimp only
          split <;> rfl
theorem extE_24 {x0 x1 x2 x3 x4 x5 x6 x7 x8 x9 x10 x11 x12 x13 x14 x15 x16 x17 x18 x19 x20 x21 x22 x23 : Option Sl} {p q : List PV} {l : PEnv} : extE 24 (.t (.own q)) ss (x0 :: x1 :: x2 :: x3 :: x4 :: x5 :: x6 :: x7 :: x8 :: x9 :: x10 :: x11 :: x12 :: x13 :: x14 :: x15 :: x16 :: x17 :: x18 :: x19 :: x20 :: x21 :: x22 :: x23 :: some (.own p) :: l) F = extK p q (exs F ss (x0 :: x1 :: x2 :: x3 :: x4 :: x5 :: x6 :: x7 :: x8 :: x9 :: x10 :: x11 :: x12 :: x13 :: x14 :: x15 :: x16 :: x17 :: x18 :: x19 :: x20 :: x21 :: x22 :: x23 :: some (.own (p ++ q)) :: l)) := Eq.trans rfl rfl
theorem setE_24 {x0 x1 x2 x3 x4 x5 x6 x7 x8 x9 x10 x11 x12 x13 x14 x15 x16 x17 x18 x19 x20 x21 x22 x23 : Option Sl} {x : Option Sl} {s : Sl} {l : PEnv} : setE 24 s ss (x0 :: x1 :: x2 :: x3 :: x4 :: x5 :: x6 :: x7 :: x8 :: x9 :: x10 :: x11 :: x12 :: x13 :: x14 :: x15 :: x16 :: x17 :: x18 :: x19 :: x20 :: x21 :: x22 :: x23 :: x :: l) F = exs F ss (x0 :: x1 :: x2 :: x3 :: x4 :: x5 :: x6 :: x7 :: x8 :: x9 :: x10 :: x11 :: x12 :: x13 :: x14 :: x15 :: x16 :: x17 :: x18 :: x19 :: x20 :: x21 :: x22 :: x23 :: some s :: l) := Eq.trans rfl rfl
theorem s_app25 {x0 x1 x2 x3 x4 x5 x6 x7 x8 x9 x10 x11 x12 x13 x14 x15 x16 x17 x18 x19 x20 x21 x22 x23 x24 : Option Sl} {p : List PV} {l : PEnv} {e : E} : exs F (.cons (.app 25 e) ss) (x0 :: x1 :: x2 :: x3 :: x4 :: x5 :: x6 :: x7 :: x8 :: x9 :: x10 :: x11 :: x12 :: x13 :: x14 :: x15 :: x16 :: x17 :: x18 :: x19 :: x20 :: x21 :: x22 :: x23 :: x24 :: some (.own p) :: l) = (ev F e (x0 :: x1 :: x2 :: x3 :: x4 :: x5 :: x6 :: x7 :: x8 :: x9 :: x10 :: x11 :: x12 :: x13 :: x14 :: x15 :: x16 :: x17 :: x18 :: x19 :: x20 :: x21 :: x22 :: x23 :: x24 :: some (.own p) :: l)).bind fun r => (fix r.2 r.1).bind fun q => appE 25 q.1 ss q.2 F := by
  rw [exs_cons']
  show ((ev F e (x0 :: x1 :: x2 :: x3 :: x4 :: x5 :: x6 :: x7 :: x8 :: x9 :: x10 :: x11 :: x12 :: x13 :: x14 :: x15 :: x16 :: x17 :: x18 :: x19 :: x20 :: x21 :: x22 :: x23 :: x24 :: some (.own p) :: l)).bind _).bind _ = _
  rw [bind_as]
  congr; funext r
  rw [bind_as]
  congr; funext q
  unfold appE
  cases q.2.getD 25 none with
  | none => rfl
  | some s =>
    cases s with
    | sh p => rfl
    | own xs =>
      dsimp only
      split <;> rfl
theorem appE_25 {x0 x1 x2 x3 x4 x5 x6 x7 x8 x9 x10 x11 x12 x13 x14 x15 x16 x17 x18 x19 x20 x21 x22 x23 x24 : Option Sl} {p : List PV} {q : PV} {l : PEnv} : appE 25 q ss (x0 :: x1 :: x2 :: x3 :: x4 :: x5 :: x6 :: x7 :: x8 :: x9 :: x10 :: x11 :: x12 :: x13 :: x14 :: x15 :: x16 :: x17 :: x18 :: x19 :: x20 :: x21 :: x22 :: x23 :: x24 :: some (.own p) :: l) F = appK p (exs F ss (x0 :: x1 :: x2 :: x3 :: x4 :: x5 :: x6 :: x7 :: x8 :: x9 :: x10 :: x11 :: x12 :: x13 :: x14 :: x15 :: x16 :: x17 :: x18 :: x19 :: x20 :: x21 :: x22 :: x23 :: x24 :: some (.own (p ++ [q])) :: l)) := Eq.trans rfl rfl
theorem s_ext25 {x0 x1 x2 x3 x4 x5 x6 x7 x8 x9 x10 x11 x12 x13 x14 x15 x16 x17 x18 x19 x20 x21 x22 x23 x24 : Option Sl} {p : List PV} {l : PEnv} {e : E} : exs F (.cons (.ext 25 e) ss) (x0 :: x1 :: x2 :: x3 :: x4 :: x5 :: x6 :: x7 :: x8 :: x9 :: x10 :: x11 :: x12 :: x13 :: x14 :: x15 :: x16 :: x17 :: x18 :: x19 :: x20 :: x21 :: x22 :: x23 :: x24 :: some (.own p) :: l) = (ev F e (x0 :: x1 :: x2 :: x3 :: x4 :: x5 :: x6 :: x7 :: x8 :: x9 :: x10 :: x11 :: x12 :: x13 :: x14 :: x15 :: x16 :: x17 :: x18 :: x19 :: x20 :: x21 :: x22 :: x23 :: x24 :: some (.own p) :: l)).bind fun r => extE 25 r.1 ss r.2 F := by
  rw [exs_cons']
  show ((ev F e (x0 :: x1 :: x2 :: x3 :: x4 :: x5 :: x6 :: x7 :: x8 :: x9 :: x10 :: x11 :: x12 :: x13 :: x14 :: x15 :: x16 :: x17 :: x18 :: x19 :: x20 :: x21 :: x22 :: x23 :: x24 :: some (.own p) :: l)).bind _).bind _ = _
  rw [bind_as]
  congr; funext r
  unfold extE
  cases slb r.2 r.1 with
  | none => rfl
  | some t =>
    cases t with
    | sh p => rfl
    | own ys =>
      cases r.2.getD 25 none with
      | none => rfl
      | some s =>
        cases s with
        | sh p => rfl
        | own xs =>
          dsimp only
          split <;> rfl
theorem extE_25 {x0 x1 x2 x3 x4 x5 x6 x7 x8 x9 x10 x11 x12 x13 x14 x15 x16 x17 x18 x19 x20 x21 x22 x23 x24 : Option Sl} {p q : List PV} {l : PEnv} : extE 25 (.t (.own q)) ss (x0 :: x1 :: x2 :: x3 :: x4 :: x5 :: x6 :: x7 :: x8 :: x9 :: x10 :: x11 :: x12 :: x13 :: x14 :: x15 :: x16 :: x17 :: x18 :: x19 :: x20 :: x21 :: x22 :: x23 :: x24 :: some (.own p) :: l) F = extK p q (exs F ss (x0 :: x1 :: x2 :: x3 :: x4 :: x5 :: x6 :: x7 :: x8 :: x9 :: x10 :: x11 :: x12 :: x13 :: x14 :: x15 :: x16 :: x17 :: x18 :: x19 :: x20 :: x21 :: x22 :: x23 :: x24 :: some (.own (p ++ q)) :: l)) := Eq.trans rfl rfl
theorem setE_25 {x0 x1 x2 x3 x4 x5 x6 x7 x8 x9 x10 x11 x12 x13 x14 x15 x16 x17 x18 x19 x20 x21 x22 x23 x24 : Option Sl} {x : Option Sl} {s : Sl} {l : PEnv} : setE 25 s ss (x0 :: x1 :: x2 :: x3 :: x4 :: x5 :: x6 :: x7 :: x8 :: x9 :: x10 :: x11 :: x12 :: x13 :: x14 :: x15 :: x16 :: x17 :: x18 :: x19 :: x20 :: x21 :: x22 :: x23 :: x24 :: x :: l) F = exs F ss (x0 :: x1 :: x2 :: x3 :: x4 :: x5 :: x6 :: x7 :: x8 :: x9 :: x10 :: x11 :: x12 :: x13 :: x14 :: x15 :: x16 :: x17 :: x18 :: x19 :: x20 :: x21 :: x22 :: x23 :: x24 :: some s :: l) := Eq.trans rfl rfl
end
end Mir
/-! Mir13: loops by what they keep. -/
namespace Mir
open PySem PySem.Spec PyProof.Rows L2
section
variable {α β : Type}
theorem comp_go' {step : PV → PEnv → Option (Option PV × PEnv)} {E : PEnv} {g : α → PV} {f : α → Option PV} :
    ∀ (zs : List α) (acc : List PV), (∀ z ∈ zs, step (g z) E = some (f z, E)) → acc.length + zs.length ≤ 16777216 →
      compL step (zs.map g) E acc = some (acc ++ zs.filterMap f, E)
  | [], acc, _, _ => by rw [List.filterMap_nil, List.append_nil]; rfl
  | z :: zs, acc, h, hl => by
    rw [List.length_cons] at hl
    show (step (g z) E).bind _ = _
    rw [h z List.mem_cons_self, Option.bind_some]
    have h' : ∀ w ∈ zs, step (g w) E = some (f w, E) := fun w hw => h w (List.mem_cons_of_mem _ hw)
    cases e : f z with
    | none => rw [List.filterMap_cons_none e]; exact comp_go' zs acc h' (by omega)
    | some q =>
      rw [List.filterMap_cons_some e]
      show (if acc.length < 16777216 then compL step (zs.map g) E (acc ++ [q]) else none) = _
      rw [if_pos (by omega), comp_go' zs _ h' (by rw [List.length_append]; simp only [List.length_cons, List.length_nil]; omega), List.append_assoc]
      rfl
/-- a comprehension over a list: each turn leaves the cells as they were -/
theorem comp_go {step : PV → PEnv → Option (Option PV × PEnv)} {E : PEnv} {xs : List PV} {k : List PV × PEnv → Option β} (zs : List α) (g : α → PV) (f : α → Option PV)
    (hx : xs = zs.map g) (h : ∀ z ∈ zs, step (g z) E = some (f z, E)) (hl : zs.length ≤ 16777216) : (compL step xs E []).bind k = k (zs.filterMap f, E) := by
  subst hx
  rw [comp_go' zs [] h (by simp only [List.length_nil]; omega)]
  rfl
theorem comp_map {step : PV → PEnv → Option (Option PV × PEnv)} {E : PEnv} {xs : List PV} {k : List PV × PEnv → Option β} (zs : List α) (g : α → PV) (f : α → PV)
    (hx : xs = zs.map g) (h : ∀ z ∈ zs, step (g z) E = some (some (f z), E)) (hl : zs.length ≤ 16777216) : (compL step xs E []).bind k = k (zs.map f, E) := by
  rw [comp_go zs g (fun z => some (f z)) hx h hl]
  have q : ∀ ws : List α, ws.filterMap (fun z => some (f z)) = ws.map f := fun ws => by
    induction ws with
    | nil => rfl
    | cons z ws ih => show List.filterMap (fun z => some (f z)) (z :: ws) = f z :: ws.map f; rw [← ih]; rfl
  rw [q]
theorem comp_then {step : PV → PEnv → Option (Option PV × PEnv)} {E : PEnv} {xs : List PV} {k : List PV × PEnv → Option β} {R : Option β} (zs : List α) (g : α → PV) (f : α → PV)
    (hx : xs = zs.map g) (h : ∀ z ∈ zs, step (g z) E = some (some (f z), E)) (hl : zs.length ≤ 16777216) (hk : k (zs.map f, E) = R) : (compL step xs E []).bind k = R := (comp_map zs g f hx h hl).trans hk
theorem comp_thenF {step : PV → PEnv → Option (Option PV × PEnv)} {E : PEnv} {xs : List PV} {k : List PV × PEnv → Option β} {R : Option β} (zs : List α) (g : α → PV) (f : α → Option PV)
    (hx : xs = zs.map g) (h : ∀ z ∈ zs, step (g z) E = some (f z, E)) (hl : zs.length ≤ 16777216) (hk : k (zs.filterMap f, E) = R) : (compL step xs E []).bind k = R := (comp_go zs g f hx h hl).trans hk
/-- a for loop that keeps I, told by what is walked already -/
theorem for_inv {body : PV → PEnv → Option Fl} {g : α → PV} (I : List α → PEnv → Prop) :
    ∀ (zs pre : List α) (e : PEnv), (∀ p z q e, pre ++ zs = p ++ z :: q → I p e → ∃ e', body (g z) e = some (.next e') ∧ I (p ++ [z]) e') → I pre e →
      ∃ e', forL body (zs.map g) e = some (.next e') ∧ I (pre ++ zs) e'
  | [], pre, e, _, h0 => ⟨e, rfl, by rw [List.append_nil]; exact h0⟩
  | z :: zs, pre, e, h, h0 => by
    obtain ⟨e', he, hi⟩ := h pre z zs e rfl h0
    have q : (pre ++ [z]) ++ zs = pre ++ z :: zs := by rw [List.append_assoc]; rfl
    obtain ⟨e2, h2, i2⟩ := for_inv I zs (pre ++ [z]) e' (fun p w r e hp => h p w r e (q.symm.trans hp)) hi
    refine ⟨e2, ?_, q ▸ i2⟩
    show (body (g z) e).bind _ = _
    rw [he]
    exact h2
theorem for_go {body : PV → PEnv → Option Fl} {xs : List PV} {e : PEnv} {k : Fl → Option β} {R : Option β} (zs : List α) (g : α → PV) (I : List α → PEnv → Prop)
    (hx : xs = zs.map g) (h0 : I [] e) (h : ∀ p z q e, zs = p ++ z :: q → I p e → ∃ e', body (g z) e = some (.next e') ∧ I (p ++ [z]) e')
    (hk : ∀ e', I zs e' → k (.next e') = R) : (forL body xs e).bind k = R := by
  subst hx
  obtain ⟨e', he, hi⟩ := for_inv I zs [] e h h0
  rw [he]
  exact hk e' hi
theorem range_split {n z : Nat} {p q : List Nat} (h : List.range n = p ++ z :: q) : p = List.range z ∧ z < n := by
  have hl : n = p.length + (q.length + 1) := by
    have := congrArg List.length h
    rw [List.length_range, List.length_append, List.length_cons] at this
    exact this
  have hz : z = p.length := by
    have h1 : (List.range n)[p.length]? = some p.length := by rw [List.getElem?_range (by omega)]
    rw [h, List.getElem?_append_right (Nat.le_refl _), Nat.sub_self] at h1
    exact Option.some.inj h1
  refine ⟨?_, by omega⟩
  have h2 : (List.range n).take p.length = p := by rw [h, List.take_left']; rfl
  rw [List.take_range] at h2
  rw [← h2, hz]
  congr 1
  omega
/-- the same, over a range and told by the turn's number -/
theorem for_range {body : PV → PEnv → Option Fl} {xs : List PV} {e : PEnv} {k : Fl → Option β} {R : Option β} (n : Nat) (g : Nat → PV) (I : Nat → PEnv → Prop)
    (hx : xs = (List.range n).map g) (h0 : I 0 e) (h : ∀ i e, i < n → I i e → ∃ e', body (g i) e = some (.next e') ∧ I (i + 1) e')
    (hk : ∀ e', I n e' → k (.next e') = R) : (forL body xs e).bind k = R := by
  refine for_go (List.range n) g (fun pre e => I pre.length e) hx h0 (fun p z q e hL hI => ?_) fun e' hI => hk e' (by rw [List.length_range] at hI; exact hI)
  obtain ⟨rfl, hz⟩ := range_split hL
  rw [List.length_range] at hI
  rw [List.length_append, List.length_range]
  exact h z e hz hI
/-- .. and over a list, told by the turn's number -/
theorem for_list {γ : Type} {body : PV → PEnv → Option Fl} {xs : List PV} {e : PEnv} {k : Fl → Option β} {R : Option β} (zs : List γ) (d : γ) (g : γ → PV) (I : Nat → PEnv → Prop)
    (hx : xs = zs.map g) (h0 : I 0 e) (h : ∀ i e, i < zs.length → I i e → ∃ e', body (g (zs.getD i d)) e = some (.next e') ∧ I (i + 1) e')
    (hk : ∀ e', I zs.length e' → k (.next e') = R) : (forL body xs e).bind k = R := by
  refine for_go zs g (fun pre e => I pre.length e) hx h0 (fun p z q e hL hI => ?_) hk
  have hz : zs.getD p.length d = z := by rw [hL, List.getD_eq_getElem?_getD, List.getElem?_append_right (Nat.le_refl _), Nat.sub_self]; rfl
  have hl : p.length < zs.length := by rw [hL, List.length_append, List.length_cons]; omega
  have := h p.length e hl hI
  rw [hz] at this
  rw [List.length_append]
  exact this
/-- .. and for any end -/
theorem for_range_any {body : PV → PEnv → Option Fl} {xs : List PV} {e : PEnv} {k : Fl → Option β} (R : Option β → Prop) (n : Nat) (g : Nat → PV) (I : Nat → PEnv → Prop)
    (hx : xs = (List.range n).map g) (h0 : I 0 e) (h : ∀ i e, i < n → I i e → ∃ e', body (g i) e = some (.next e') ∧ I (i + 1) e')
    (hk : ∀ e', I n e' → R (k (.next e'))) : R ((forL body xs e).bind k) := by
  subst hx
  obtain ⟨e', he, hi⟩ := for_inv (g := g) (fun pre e => I pre.length e) (List.range n) [] e (fun p z q e hL hI => by
    obtain ⟨rfl, hz⟩ := range_split hL
    rw [List.length_range] at hI
    rw [List.length_append, List.length_range]
    exact h z e hz hI) h0
  rw [he]
  refine hk e' ?_
  rw [List.nil_append, List.length_range] at hi
  exact hi
/-- the three, within a loop's turn -/
theorem for_go_ex {body : PV → PEnv → Option Fl} {xs : List PV} {e : PEnv} {k : Fl → Option Fl} {Q : PEnv → Prop} (zs : List α) (g : α → PV) (I : List α → PEnv → Prop)
    (hx : xs = zs.map g) (h0 : I [] e) (h : ∀ p z q e, zs = p ++ z :: q → I p e → ∃ e', body (g z) e = some (.next e') ∧ I (p ++ [z]) e')
    (hk : ∀ e', I zs e' → ∃ e2, k (.next e') = some (.next e2) ∧ Q e2) : ∃ e2, (forL body xs e).bind k = some (.next e2) ∧ Q e2 := by
  subst hx
  obtain ⟨e', he, hi⟩ := for_inv I zs [] e h h0
  obtain ⟨e2, h1, h2⟩ := hk e' hi
  exact ⟨e2, by rw [he]; exact h1, h2⟩
theorem for_range_ex {body : PV → PEnv → Option Fl} {xs : List PV} {e : PEnv} {k : Fl → Option Fl} {Q : PEnv → Prop} (n : Nat) (g : Nat → PV) (I : Nat → PEnv → Prop)
    (hx : xs = (List.range n).map g) (h0 : I 0 e) (h : ∀ i e, i < n → I i e → ∃ e', body (g i) e = some (.next e') ∧ I (i + 1) e')
    (hk : ∀ e', I n e' → ∃ e2, k (.next e') = some (.next e2) ∧ Q e2) : ∃ e2, (forL body xs e).bind k = some (.next e2) ∧ Q e2 := by
  refine for_go_ex (List.range n) g (fun pre e => I pre.length e) hx h0 (fun p z q e hL hI => ?_) fun e' hI => hk e' (by rw [List.length_range] at hI; exact hI)
  obtain ⟨rfl, hz⟩ := range_split hL
  rw [List.length_range] at hI
  rw [List.length_append, List.length_range]
  exact h z e hz hI
theorem for_list_ex {γ : Type} {body : PV → PEnv → Option Fl} {xs : List PV} {e : PEnv} {k : Fl → Option Fl} {Q : PEnv → Prop} (zs : List γ) (d : γ) (g : γ → PV) (I : Nat → PEnv → Prop)
    (hx : xs = zs.map g) (h0 : I 0 e) (h : ∀ i e, i < zs.length → I i e → ∃ e', body (g (zs.getD i d)) e = some (.next e') ∧ I (i + 1) e')
    (hk : ∀ e', I zs.length e' → ∃ e2, k (.next e') = some (.next e2) ∧ Q e2) : ∃ e2, (forL body xs e).bind k = some (.next e2) ∧ Q e2 := by
  refine for_go_ex zs g (fun pre e => I pre.length e) hx h0 (fun p z q e hL hI => ?_) hk
  have hz : zs.getD p.length d = z := by rw [hL, List.getD_eq_getElem?_getD, List.getElem?_append_right (Nat.le_refl _), Nat.sub_self]; rfl
  have hl : p.length < zs.length := by rw [hL, List.length_append, List.length_cons]; omega
  have := h p.length e hl hI
  rw [hz] at this
  rw [List.length_append]
  exact this
theorem range_getD {γ : Type} (zs : List γ) (d : γ) : ∀ x, x ≤ zs.length → (List.range x).map (fun k => zs.getD k d) = zs.take x
  | 0, _ => rfl
  | x + 1, h => by
    rw [List.range_succ, List.map_append, range_getD zs d x (by omega), List.take_succ, List.map_cons, List.map_nil]
    congr 1
    rw [List.getD_eq_getElem?_getD, List.getElem?_eq_getElem (by omega)]
    rfl
theorem take_next {γ : Type} (zs : List γ) (d : γ) (x : Nat) (h : x < zs.length) : zs.take (x + 1) = zs.take x ++ [zs.getD x d] := by
  rw [List.take_succ, List.getD_eq_getElem?_getD, List.getElem?_eq_getElem h]
  rfl
/-- a for loop with an early end -/
theorem for_inv_ret {body : PV → PEnv → Option Fl} {g : α → PV} (I : List α → PEnv → Prop) (Q : Fl → Prop) :
    ∀ (zs pre : List α) (e : PEnv), (∀ p z q e, pre ++ zs = p ++ z :: q → I p e → (∃ e', body (g z) e = some (.next e') ∧ I (p ++ [z]) e') ∨ (∃ s, body (g z) e = some (.ret s) ∧ Q (.ret s)) ∨ (∃ e', body (g z) e = some (.brk e') ∧ Q (.next e'))) → I pre e →
      (∃ e', forL body (zs.map g) e = some (.next e') ∧ I (pre ++ zs) e') ∨ ∃ f, forL body (zs.map g) e = some f ∧ Q f
  | [], pre, e, _, h0 => .inl ⟨e, rfl, by rw [List.append_nil]; exact h0⟩
  | z :: zs, pre, e, h, h0 => by
    have q : (pre ++ [z]) ++ zs = pre ++ z :: zs := by rw [List.append_assoc]; rfl
    have u : forL body ((z :: zs).map g) e = (body (g z) e).bind fun r => match r with
      | .next e => forL body (zs.map g) e
      | .ret s => some (.ret s)
      | .brk e => some (.next e) := rfl
    rcases h pre z zs e rfl h0 with ⟨e', he, hi⟩ | ⟨s, hs, hq⟩ | ⟨e', hs, hq⟩
    · rcases for_inv_ret I Q zs (pre ++ [z]) e' (fun p w r e hp => h p w r e (q.symm.trans hp)) hi with ⟨e2, h2, i2⟩ | ⟨f, hf, hq⟩
      · exact .inl ⟨e2, by rw [u, he]; exact h2, q ▸ i2⟩
      · exact .inr ⟨f, by rw [u, he]; exact hf, hq⟩
    · exact .inr ⟨_, by rw [u, hs]; rfl, hq⟩
    · exact .inr ⟨_, by rw [u, hs]; rfl, hq⟩
theorem for_ret {body : PV → PEnv → Option Fl} {xs : List PV} {e : PEnv} {k : Fl → Option β} {R : Option β} (zs : List α) (g : α → PV) (I : List α → PEnv → Prop)
    (hx : xs = zs.map g) (h0 : I [] e) (h : ∀ p z q e, zs = p ++ z :: q → I p e → (∃ e', body (g z) e = some (.next e') ∧ I (p ++ [z]) e') ∨ (∃ s, body (g z) e = some (.ret s) ∧ k (.ret s) = R) ∨ (∃ e', body (g z) e = some (.brk e') ∧ k (.next e') = R))
    (hk : ∀ e', I zs e' → k (.next e') = R) : (forL body xs e).bind k = R := by
  subst hx
  rcases for_inv_ret I (fun f => k f = R) zs [] e h h0 with ⟨e', he, hi⟩ | ⟨f, hf, hq⟩
  · rw [he]; exact hk e' hi
  · rw [hf]; exact hq
theorem bind_id {γ : Type} {x : Option γ} {r : Option γ} (h : (x.bind fun z => some z) = r) : x = r := by
  subst h; cases x <;> rfl
/-- a while loop that runs m times -/
theorem while_inv {test : PEnv → Option (Bool × PEnv)} {body : PEnv → Option Fl} (I : Nat → PEnv → Prop) (m : Nat)
    (ht : ∀ i e, i < m → I i e → ∃ e1 e2, test e = some (true, e1) ∧ body e1 = some (.next e2) ∧ I (i + 1) e2) (hf : ∀ e, I m e → ∃ e', test e = some (false, e') ∧ I m e') :
    ∀ (n i : Nat) (e : PEnv), i ≤ m → m - i < n → I i e → ∃ e', whileL test body n e = some (.next e') ∧ I m e'
  | 0, i, e, hi, hn, _ => by omega
  | n + 1, i, e, hi, hn, h => by
    by_cases q : i = m
    · subst q
      obtain ⟨e', h1, h2⟩ := hf e h
      refine ⟨e', ?_, h2⟩
      show (test e).bind _ = _
      rw [h1]
      rfl
    · obtain ⟨e1, e2, h1, h2, h3⟩ := ht i e (by omega) h
      obtain ⟨e', h4, h5⟩ := while_inv I m ht hf n (i + 1) e2 (by omega) (by omega) h3
      refine ⟨e', ?_, h5⟩
      show (test e).bind _ = _
      rw [h1, Option.bind_some]
      show (body e1).bind _ = _
      rw [h2]
      exact h4
theorem while_go {test : PEnv → Option (Bool × PEnv)} {body : PEnv → Option Fl} {e : PEnv} {k : Fl → Option β} {R : Option β} (I : Nat → PEnv → Prop) (m : Nat) (hm : m < 1000000) (h0 : I 0 e)
    (ht : ∀ i e, i < m → I i e → ((test e).bind fun z => some z) = some (true, e) ∧ ∃ e2, body e = some (.next e2) ∧ I (i + 1) e2) (hf : ∀ e, I m e → ((test e).bind fun z => some z) = some (false, e))
    (hk : ∀ e', I m e' → k (.next e') = R) : (whileL test body fuel e).bind k = R := by
  obtain ⟨e', h1, h2⟩ := while_inv I m (fun i e hi h => ⟨e, (ht i e hi h).2.choose, bind_id (ht i e hi h).1, (ht i e hi h).2.choose_spec⟩) (fun e h => ⟨e, bind_id (hf e h), h⟩) fuel 0 e (by omega) (by show m - 0 < 1000000; omega) h0
  rw [h1]
  exact hk e' h2
end
theorem atI_map {α : Type} (g : α → PV) (zs : List α) (d : α) (i : Int) (h0 : 0 ≤ i) (h1 : i < zs.length) : atI (zs.map g) i = some (g (zs.getD i.toNat d)) := by
  unfold atI ixN
  rw [if_pos h0, List.length_map, if_pos (by omega), Option.bind_some, List.getElem?_map, List.getD_eq_getElem?_getD]
  rw [List.getElem?_eq_getElem (by omega)]
  rfl
theorem atI_get {γ δ : Type} (g : δ → PV) {zs : List δ} (d : δ) {i : Nat} {k : PV → Option γ} (h : i < zs.length) : (atI (zs.map g) (i : Int)).bind k = k (g (zs.getD i d)) := by
  rw [atI_map g zs d i (by omega) (by omega), Int.toNat_natCast]; rfl
theorem atI_int {γ : Type} {ns : List Int} {i : Int} {k : PV → Option γ} (h0 : 0 ≤ i) (h1 : i < ns.length) : (atI (ns.map PV.int) i).bind k = k (.int (ns.getD i.toNat 0)) := by
  rw [atI_map PV.int ns 0 i h0 h1]; rfl
theorem atI_nat {γ : Type} {ns : List Int} {i : Nat} {k : PV → Option γ} (h1 : i < ns.length) : (atI (ns.map PV.int) (i : Int)).bind k = k (.int (ns.getD i 0)) := by
  rw [atI_int (by omega) (by omega), Int.toNat_natCast]
theorem ifB_and {γ : Type} {c d : Bool} {a b : Option γ} : ifB c (ifB d a b) b = ifB (c && d) a b := by cases c <;> cases d <;> rfl
theorem ifB_or {γ : Type} {c d : Bool} {a b : Option γ} : ifB c a (ifB d a b) = ifB (c || d) a b := by cases c <;> cases d <;> rfl
theorem ifB_someD {γ δ : Type} {c p : Bool} {x : γ} {e : δ} (h : c = true ↔ p = true) : ifB c (some (some x, e)) (some (none, e)) = some (if p = true then some x else none, e) := by
  cases c <;> cases p <;> simp_all [ifB]
theorem atI_three {γ : Type} {a b c i : Int} {k : PV → Option γ} (h0 : 0 ≤ i) (h1 : i < 3) : (atI [PV.int a, PV.int b, PV.int c] i).bind k = k (.int (if i = 0 then a else if i = 1 then b else c)) := by
  have : i = 0 ∨ i = 1 ∨ i = 2 := by omega
  rcases this with rfl | rfl | rfl <;> rfl
theorem atI_twoS {γ : Type} {a b : Str} {i : Int} {k : PV → Option γ} (h0 : 0 ≤ i) (h1 : i < 2) : (atI [PV.str a, PV.str b] i).bind k = k (.str (if i = 0 then a else b)) := by
  have : i = 0 ∨ i = 1 := by omega
  rcases this with rfl | rfl <;> rfl
theorem atI_pv {γ : Type} {xs : List PV} {i : Nat} {k : PV → Option γ} (h : i < xs.length) : (atI xs (i : Int)).bind k = k (xs.getD i .non) := by
  have := atI_get (γ := γ) (fun p : PV => p) (zs := xs) .non (k := k) h
  rw [List.map_id'] at this
  exact this
theorem getD_mem {γ : Type} {xs : List γ} {i : Nat} {d : γ} (h : i < xs.length) : xs.getD i d ∈ xs := by
  rw [List.getD_eq_getElem?_getD, List.getElem?_eq_getElem h]
  exact List.getElem_mem h
/-- no truth value within, d deep -/
def noBl : Nat → PV → Prop
  | d + 1, .lst xs => ∀ x ∈ xs, (∀ b, x ≠ .bl b) ∧ noBl d x
  | d + 1, .tup xs => ∀ x ∈ xs, (∀ b, x ≠ .bl b) ∧ noBl d x
  | _, _ => True
theorem as_trues' {γ α : Type} {xs : List α} {k : List Bool → Option γ} : (asBls (xs.map fun _ => PV.bl true)).bind k = k (xs.map fun _ => true) := by
  have : (xs.map fun _ => PV.bl true) = (xs.map fun _ => true).map PV.bl := by rw [List.map_map]; rfl
  rw [this, asBls_map]; rfl
theorem all_trues' {α : Type} {xs : List α} : (xs.map fun _ => true).all id = true := by
  induction xs with
  | nil => rfl
  | cons x xs ih => exact ih
theorem atI_two {γ : Type} {a b i : Int} {k : PV → Option γ} (h0 : 0 ≤ i) (h1 : i < 2) : (atI [PV.int a, PV.int b] i).bind k = k (.int (if i = 0 then a else b)) := by
  have : i = 0 ∨ i = 1 := by omega
  rcases this with rfl | rfl <;> rfl
theorem rangeL_zero (n : Nat) : rangeL 0 n = (List.range n).map fun (k : Nat) => .int (k : Int) := by
  unfold rangeL
  congr; funext k
  rw [Int.zero_add]
theorem rangeL_one (n : Nat) : rangeL 1 n = ((List.range n).map fun (k : Nat) => k + 1).map fun (k : Nat) => .int (k : Int) := by
  unfold rangeL
  rw [List.map_map]
  congr; funext k
  show PV.int (1 + (k : Int)) = PV.int ((k + 1 : Nat) : Int)
  congr 1; omega
theorem filterMap_if {α β : Type} (c : α → Bool) (g : α → β) (zs : List α) : zs.filterMap (fun z => if c z = true then some (g z) else none) = (zs.filter c).map g := by
  induction zs with
  | nil => rfl
  | cons z zs ih =>
    by_cases q : c z = true
    · rw [List.filterMap_cons_some (by rw [if_pos q]), List.filter_cons_of_pos q, List.map_cons, ih]
    · rw [List.filterMap_cons_none (by rw [if_neg q]), List.filter_cons_of_neg q, ih]
/-- a value at most d deep, with no list longer than the limit -/
def okD : Nat → PV → Prop
  | d + 1, .lst xs => xs.length ≤ 16777216 ∧ ∀ x ∈ xs, okD d x
  | d + 1, .tup xs => xs.length ≤ 16777216 ∧ ∀ x ∈ xs, okD d x
  | 0, .lst _ => False
  | 0, .tup _ => False
  | _, _ => True
theorem okD_int {i : Int} : ∀ d, okD d (.int i) | 0 => trivial | _ + 1 => trivial
theorem okD_bl {i : Bool} : ∀ d, okD d (.bl i) | 0 => trivial | _ + 1 => trivial
theorem okD_str {i : Str} : ∀ d, okD d (.str i) | 0 => trivial | _ + 1 => trivial
theorem okD_ints {d : Nat} {ns : List Int} (h : ns.length ≤ 16777216) : okD (d + 1) (.lst (ns.map PV.int)) := by
  refine ⟨by rw [List.length_map]; exact h, fun x hx => ?_⟩
  obtain ⟨i, _, rfl⟩ := List.mem_map.mp hx
  exact okD_int d
theorem okD_tints {d : Nat} {ns : List Int} (h : ns.length ≤ 16777216) : okD (d + 1) (.tup (ns.map PV.int)) := by
  refine ⟨by rw [List.length_map]; exact h, fun x hx => ?_⟩
  obtain ⟨i, _, rfl⟩ := List.mem_map.mp hx
  exact okD_int d
theorem zipWith_self {xs : List PV} : xs.zipWith (fun x y => PV.tup [x, y]) xs = xs.map fun x => PV.tup [x, x] := by
  induction xs with
  | nil => rfl
  | cons x xs ih => rw [List.zipWith_cons_cons, ih]; rfl
theorem as_trues {γ : Type} {xs : List PV} {k : List Bool → Option γ} : (asBls (xs.map fun _ => PV.bl true)).bind k = k (xs.map fun _ => true) := by
  have : (xs.map fun _ => PV.bl true) = (xs.map fun _ => true).map PV.bl := by rw [List.map_map]; rfl
  rw [this, asBls_map]; rfl
theorem all_trues {xs : List PV} : (xs.map fun _ => true).all id = true := by
  induction xs with
  | nil => rfl
  | cons x xs ih => exact ih
end Mir
namespace Pr
open PySem PySem.Spec PyProof.Rows L2 Mir
def topS (i : Nat) : Stmt := PySem.Challenge.pw_bellnest_k60_states_begin_and_enter.main.body.getD i (.Pass ⟨0, 0, 0, 0⟩)
/-- starts_of -/
def b0 : Ss := (.cons (.set 1 (.lst .nil)) (.cons (.for (.name 2) (.val (.var 0)) (.cons (.ext 1 (.blt "list" (.cons (.ix (.var 2) (.int 1)) .nil))) .nil)) (.cons (.ret (.blt "tuple" (.cons (.var 1) .nil))) .nil)))
def f0 : Fn := ⟨"starts_of", ["boxes", "cells", "box"], ["boxes"], b0⟩
/-- word_at -/
def b1 : Ss := (.cons (.set 3 (.ix (.ix (.ix (.var 0) (.int 1)) (.var 1)) (.int 2))) (.cons (.ife (.cmp .Eq (.var 2) (.blt "len" (.cons (.var 3) .nil))) (.cons (.ret (.int 0)) .nil) .nil) (.cons (.ret (.ix (.ix (.var 3) (.var 2)) (.int 1))) .nil)))
def f1 : Fn := ⟨"word_at", ["program", "row", "place", "places"], ["program", "row", "place"], b1⟩
/-- shut_by -/
def b2 : Ss := (.cons (.set 2 (.int 0)) (.cons (.for (.name 3) (.val (.var 1)) (.cons (.set 2 (.bin .BitOr (.var 2) (.call 1 (.cons (.var 0) (.cons (.ix (.var 3) (.int 0)) (.cons (.ix (.var 3) (.int 1)) .nil)))))) .nil)) (.cons (.ret (.var 2)) .nil)))
def f2 : Fn := ⟨"shut_by", ["program", "pile", "shut", "frame"], ["program", "pile"], b2⟩
/-- may_enter -/
def b3 : Ss := (.cons (.set 3 (.ix (.var 0) (.int 1))) (.cons (.ife (.cmp .LtE (.ix (.ix (.var 3) (.var 2)) (.int 1)) (.ix (.ix (.var 3) (.ix (.ix (.var 1) (.neg (.int 1))) (.int 0))) (.int 1))) (.cons (.ret (.bl false)) .nil) .nil) (.cons (.ret (.cmp .Eq (.bin .BitAnd (.bin .RShift (.call 2 (.cons (.var 0) (.cons (.var 1) .nil))) (.var 2)) (.int 1)) (.int 0))) .nil)))
def f3 : Fn := ⟨"may_enter", ["program", "pile", "bell", "rows"], ["program", "pile", "bell"], b3⟩
/-- entered -/
def b4 : Ss := (.cons (.ret (.bin .Add (.var 0) (.tup (.cons (.tup (.cons (.var 1) (.cons (.int 0) (.cons (.int 0) (.cons (.tup .nil) .nil))))) .nil)))) .nil)
def f4 : Fn := ⟨"entered", ["pile", "bell"], ["pile", "bell"], b4⟩
/-- begin -/
def b5 : Ss := (.cons (.ret (.tup (.cons (.tup (.cons (.tup (.cons (.int 0) (.cons (.int 0) (.cons (.int 0) (.cons (.tup .nil) .nil))))) .nil)) (.cons (.call 0 (.cons (.ix (.var 0) (.int 0)) .nil)) .nil)))) .nil)
def f5 : Fn := ⟨"begin", ["program"], ["program"], b5⟩
/-- may_come -/
def b6 : Ss := (.cons (.ret (.comp (.var 2) (.name 2) [("k", 2)] (.range2 (.int 1) (.blt "len" (.cons (.ix (.var 0) (.int 1)) .nil))) (.on (.val (.call 3 (.cons (.var 0) (.cons (.ix (.var 1) (.int 0)) (.cons (.var 2) .nil)))))))) .nil)
def f6 : Fn := ⟨"may_come", ["program", "state", "k"], ["program", "state"], b6⟩
/-- come -/
def b7 : Ss := (.cons (.ret (.tup (.cons (.call 4 (.cons (.ix (.var 1) (.int 0)) (.cons (.var 2) .nil))) (.cons (.ix (.var 1) (.int 1)) .nil)))) .nil)
def f7 : Fn := ⟨"come", ["program", "state", "bell"], ["program", "state", "bell"], b7⟩
/-- _law_mixed -/
def b8 : Ss := (.cons (.set 2 (.int 0)) (.cons (.ife (.cmp .Gt (.blt "len" (.cons (.var 0) .nil)) (.int 0)) (.cons (.set 2 (.ix (.var 0) (.bin .Mod (.var 1) (.blt "len" (.cons (.var 0) .nil))))) .nil) .nil) (.cons (.set 3 (.bin .Mod (.bin .Add (.bin .Add (.bin .Mult (.bin .Mod (.var 2) (.int 1000003)) (.int 48271)) (.bin .Mult (.bin .Mult (.var 1) (.var 1)) (.int 7919))) (.int 1)) (.int 65521))) (.cons (.ret (.bin .Mod (.bin .Mult (.var 3) (.var 3)) (.int 65519))) .nil))))
def f8 : Fn := ⟨"_law_mixed", ["_law_script", "_law_k", "_law_cell", "_law_v"], ["_law_script", "_law_k"], b8⟩
/-- _law_number -/
def b9 : Ss := (.cons (.set 2 (.call 8 (.cons (.var 0) (.cons (.var 1) .nil)))) (.cons (.set 3 (.call 8 (.cons (.var 0) (.cons (.bin .Add (.var 1) (.int 1)) .nil)))) (.cons (.ife (.cmp .Eq (.bin .Mod (.var 2) (.int 3)) (.int 0)) (.cons (.ret (.bin .Sub (.bin .Mod (.var 3) (.int 5)) (.int 2))) .nil) .nil) (.cons (.ife (.cmp .Eq (.bin .Mod (.var 2) (.int 17)) (.int 1)) (.cons (.ret (.ix (.lst (.cons (.bin .Pow (.int 10) (.int 9)) (.cons (.neg (.bin .Pow (.int 10) (.int 9))) .nil))) (.bin .Mod (.var 3) (.int 2)))) .nil) .nil) (.cons (.ret (.bin .Sub (.bin .Mod (.bin .Add (.bin .Mult (.var 2) (.int 65519)) (.var 3)) (.int 2000000001)) (.int 1000000000))) .nil)))))
def f9 : Fn := ⟨"_law_number", ["_law_script", "_law_k", "_law_a", "_law_b"], ["_law_script", "_law_k"], b9⟩
/-- _law_boxes -/
def b10 : Ss := (.cons (.set 1 (.bin .Add (.int 1) (.bin .Mod (.call 8 (.cons (.var 0) (.cons (.int 3) .nil))) (.int 2)))) (.cons (.set 2 (.call 8 (.cons (.var 0) (.cons (.int 2) .nil)))) (.cons (.set 2 (.ix (.lst (.cons (.bin .Mod (.bin .FloorDiv (.var 2) (.int 16)) (.int 4)) (.cons (.bin .Add (.int 4) (.bin .Mod (.bin .FloorDiv (.var 2) (.int 16)) (.int 5))) .nil))) (.blt "int" (.cons (.cmp .Eq (.bin .Mod (.var 2) (.int 8)) (.int 0)) .nil)))) (.cons (.set 3 (.lst .nil)) (.cons (.for (.name 4) (.range1 (.var 2)) (.cons (.set 5 (.bin .Add (.bin .Add (.int 4) (.bin .Mult (.int 5) (.var 4))) (.bin .Mult (.int 400) (.bin .FloorDiv (.var 4) (.int 3))))) (.cons (.set 6 (.lst (.cons (.call 9 (.cons (.var 0) (.cons (.var 5) .nil))) .nil))) (.cons (.set 7 (.bin .Mod (.call 8 (.cons (.var 0) (.cons (.bin .Add (.var 5) (.int 2)) .nil))) (.int 5))) (.cons (.ife (.or (.and (.cmp .Eq (.var 1) (.int 2)) (.cmp .Gt (.var 7) (.ix (.lst (.cons (.int 0) (.cons (.int 0) (.cons (.int 2) .nil)))) (.bin .Mod (.var 4) (.int 3))))) (.and (.cmp .Eq (.var 1) (.int 1)) (.cmp .Eq (.var 7) (.int 0)))) (.cons (.app 6 (.call 9 (.cons (.var 0) (.cons (.bin .Add (.var 5) (.int 3)) .nil)))) .nil) .nil) (.cons (.app 3 (.tup (.cons (.ix (.str "abcdefgh") (.var 4)) (.cons (.blt "tuple" (.cons (.var 6) .nil)) .nil)))) .nil)))))) (.cons (.ret (.blt "tuple" (.cons (.var 3) .nil))) .nil))))))
def f10 : Fn := ⟨"_law_boxes", ["_law_script", "_law_size", "_law_many", "_law_boxes_here", "_law_x", "_law_at", "_law_starts", "_law_other"], ["_law_script"], b10⟩
/-- _law_deed -/
def b11 : Ss := (.cons (.set 4 (.bin .Mod (.call 8 (.cons (.var 0) (.cons (.var 1) .nil))) (.int 11))) (.cons (.set 5 (.call 8 (.cons (.var 0) (.cons (.bin .Add (.var 1) (.int 1)) .nil)))) (.cons (.set 6 (.call 9 (.cons (.var 0) (.cons (.bin .Add (.var 1) (.int 2)) .nil)))) (.cons (.ife (.or (.cmp .Eq (.blt "len" (.cons (.var 2) .nil)) (.int 0)) (.cmp .Eq (.var 4) (.int 4))) (.cons (.ret (.tup (.cons (.str "still") (.cons (.bin .Add (.int 1) (.bin .Mod (.var 5) (.var 3))) .nil)))) .nil) .nil) (.cons (.set 7 (.bin .Mod (.var 5) (.blt "len" (.cons (.var 2) .nil)))) (.cons (.set 8 (.blt "len" (.cons (.ix (.ix (.var 2) (.var 7)) (.int 1)) .nil))) (.cons (.set 9 (.comp (.var 13) (.name 13) [("_law_y", 13)] (.range1 (.blt "len" (.cons (.var 2) .nil))) (.on (.and (.cmp .NotEq (.var 13) (.var 7)) (.cmp .Eq (.blt "len" (.cons (.ix (.ix (.var 2) (.var 13)) (.int 1)) .nil)) (.var 8)))))) (.cons (.set 10 (.ix (.bin .Add (.var 9) (.lst (.cons (.var 7) .nil))) (.bin .Mod (.call 8 (.cons (.var 0) (.cons (.bin .Add (.var 1) (.int 4)) .nil))) (.bin .Add (.blt "len" (.cons (.var 9) .nil)) (.int 1))))) (.cons (.ife (.or (.cmp .Eq (.var 4) (.int 5)) (.cmp .Eq (.var 4) (.int 6))) (.cons (.set 12 (.bin .Sub (.ix (.ix (.ix (.var 2) (.var 7)) (.int 1)) (.int 0)) (.ix (.ix (.ix (.var 2) (.var 10)) (.int 1)) (.int 0)))) (.cons (.ife (.and (.cmp .Gt (.bin .Mod (.bin .FloorDiv (.var 5) (.int 7)) (.int 3)) (.int 0)) (.cmp .LtE (.blt "abs" (.cons (.var 12) .nil)) (.bin .Pow (.int 10) (.int 9)))) (.cons (.set 6 (.var 12)) .nil) .nil) (.cons (.ret (.tup (.cons (.ix (.lst (.cons (.str "is") (.cons (.str "most") .nil))) (.bin .Sub (.var 4) (.int 5))) (.cons (.var 7) (.cons (.var 10) (.cons (.var 6) .nil)))))) .nil))) .nil) (.cons (.ife (.and (.cmp .Eq (.var 4) (.int 1)) (.cmp .NotEq (.var 10) (.var 7))) (.cons (.ret (.tup (.cons (.str "copy") (.cons (.var 7) (.cons (.var 10) .nil))))) .nil) .nil) (.cons (.ife (.or (.cmp .Eq (.var 4) (.int 2)) (.and (.cmp .Eq (.var 4) (.int 3)) (.cmp .Eq (.var 8) (.int 2)))) (.cons (.ret (.tup (.cons (.str "grow") (.cons (.var 7) (.cons (.var 6) .nil))))) .nil) .nil) (.cons (.ife (.cmp .Eq (.var 4) (.int 3)) (.cons (.ret (.tup (.cons (.str "tick") (.cons (.var 7) .nil)))) .nil) .nil) (.cons (.ife (.or (.cmp .Eq (.var 4) (.int 7)) (.cmp .Eq (.var 4) (.int 10))) (.cons (.ret (.tup (.cons (.str "none") (.cons (.var 7) .nil)))) .nil) .nil) (.cons (.set 11 (.comp (.var 14) (.name 14) [("_law_t", 14)] (.range1 (.blt "len" (.cons (.var 2) .nil))) (.on (.and (.cmp .NotEq (.var 14) (.var 7)) (.and (.cmp .NotEq (.var 14) (.var 10)) (.cmp .Eq (.blt "len" (.cons (.ix (.ix (.var 2) (.var 14)) (.int 1)) .nil)) (.int 1))))))) (.cons (.ife (.and (.cmp .Eq (.var 4) (.int 8)) (.and (.cmp .NotEq (.var 10) (.var 7)) (.cmp .Gt (.blt "len" (.cons (.var 11) .nil)) (.int 0)))) (.cons (.ret (.tup (.cons (.str "anew") (.cons (.var 7) (.cons (.var 10) (.cons (.ix (.var 11) (.bin .Mod (.bin .FloorDiv (.var 5) (.int 5)) (.blt "len" (.cons (.var 11) .nil)))) .nil)))))) .nil) .nil) (.cons (.ife (.cmp .Eq (.var 8) (.int 1)) (.cons (.ret (.tup (.cons (.str "put") (.cons (.var 7) (.cons (.tup (.cons (.var 6) .nil)) .nil))))) .nil) .nil) (.cons (.ret (.tup (.cons (.str "put") (.cons (.var 7) (.cons (.tup (.cons (.var 6) (.cons (.call 9 (.cons (.var 0) (.cons (.bin .Add (.var 1) (.int 5)) .nil))) .nil))) .nil))))) .nil)))))))))))))))))
def f11 : Fn := ⟨"_law_deed", ["_law_script", "_law_k", "_law_boxes_here", "_law_rest", "_law_kind", "_law_pick", "_law_n", "_law_x", "_law_size", "_law_mates", "_law_mate", "_law_tallies", "_law_gap", "_law_y", "_law_t"], ["_law_script", "_law_k", "_law_boxes_here", "_law_rest"], b11⟩
/-- _law_row -/
def b12 : Ss := (.cons (.set 6 (.lst .nil)) (.cons (.for (.name 7) (.range1 (.bin .Add (.int 1) (.bin .Mod (.call 8 (.cons (.var 0) (.cons (.var 1) .nil))) (.var 4)))) (.cons (.set 8 (.bin .Add (.bin .Add (.var 1) (.int 3)) (.bin .Mult (.int 8) (.var 7)))) (.cons (.set 9 (.int 0)) (.cons (.set 10 (.call 8 (.cons (.var 0) (.cons (.bin .Add (.var 8) (.int 7)) .nil)))) (.cons (.ife (.cmp .Eq (.bin .Mod (.var 10) (.int 2)) (.int 1)) (.cons (.set 9 (.bin .Mult (.int 2) (.bin .Mod (.bin .FloorDiv (.var 10) (.int 2)) (.bin .LShift (.int 1) (.var 3))))) .nil) .nil) (.cons (.app 6 (.tup (.cons (.call 11 (.cons (.var 0) (.cons (.var 8) (.cons (.var 2) (.cons (.var 5) .nil))))) (.cons (.var 9) .nil)))) .nil)))))) (.cons (.ret (.blt "tuple" (.cons (.var 6) .nil))) .nil)))
def f12 : Fn := ⟨"_law_row", ["_law_script", "_law_k", "_law_boxes_here", "_law_bells", "_law_longest", "_law_rest", "_law_places", "_law_p", "_law_at", "_law_word_here", "_law_shut"], ["_law_script", "_law_k", "_law_boxes_here", "_law_bells", "_law_longest", "_law_rest"], b12⟩
/-- _law_program -/
def b13 : Ss := (.cons (.set 4 (.call 10 (.cons (.var 0) .nil))) (.cons (.set 5 (.lst (.cons (.tup (.cons (.str "main") (.cons (.int 0) (.cons (.call 12 (.cons (.var 0) (.cons (.int 20) (.cons (.var 4) (.cons (.var 1) (.cons (.var 2) (.cons (.var 3) .nil))))))) .nil)))) .nil))) (.cons (.for (.name 6) (.range1 (.var 1)) (.cons (.set 7 (.bin .Add (.int 20) (.bin .Mult (.bin .Add (.int 3) (.bin .Mult (.int 8) (.var 2))) (.bin .Add (.var 6) (.int 1))))) (.cons (.set 8 (.bin .Add (.int 1) (.bin .Mod (.call 8 (.cons (.var 0) (.cons (.bin .Add (.var 7) (.int 1)) .nil))) (.ix (.lst (.cons (.int 3) (.cons (.int 9) .nil))) (.bin .Mod (.call 8 (.cons (.var 0) (.cons (.bin .Add (.var 7) (.int 2)) .nil))) (.int 2)))))) (.cons (.app 5 (.tup (.cons (.ix (.str "pqrstu") (.var 6)) (.cons (.var 8) (.cons (.call 12 (.cons (.var 0) (.cons (.var 7) (.cons (.var 4) (.cons (.var 1) (.cons (.var 2) (.cons (.var 3) .nil))))))) .nil))))) .nil)))) (.cons (.ret (.tup (.cons (.var 4) (.cons (.blt "tuple" (.cons (.var 5) .nil)) .nil)))) .nil))))
def f13 : Fn := ⟨"_law_program", ["_law_script", "_law_bells", "_law_longest", "_law_rest", "_law_boxes_here", "_law_rows", "_law_b", "_law_at", "_law_rank"], ["_law_script", "_law_bells", "_law_longest", "_law_rest"], b13⟩
/-- _law_word -/
def b14 : Ss := (.cons (.set 2 (.ix (.ix (.ix (.var 0) (.int 1)) (.ix (.var 1) (.int 0))) (.int 2))) (.cons (.ife (.cmp .Eq (.ix (.var 1) (.int 1)) (.blt "len" (.cons (.var 2) .nil))) (.cons (.ret (.int 0)) .nil) .nil) (.cons (.ret (.ix (.ix (.var 2) (.ix (.var 1) (.int 1))) (.int 1))) .nil)))
def f14 : Fn := ⟨"_law_word", ["_law_program_here", "_law_frame", "_law_places"], ["_law_program_here", "_law_frame"], b14⟩
/-- _law_comers -/
def b15 : Ss := (.cons (.set 2 (.int 0)) (.cons (.for (.name 3) (.val (.var 1)) (.cons (.set 2 (.bin .BitOr (.var 2) (.call 14 (.cons (.var 0) (.cons (.var 3) .nil))))) .nil)) (.cons (.set 4 (.ix (.ix (.ix (.var 0) (.int 1)) (.ix (.ix (.var 1) (.neg (.int 1))) (.int 0))) (.int 1))) (.cons (.set 5 (.comp (.ix (.var 6) (.int 1)) (.name 6) [("_law_row_here", 6)] (.val (.ix (.var 0) (.int 1))) .yes)) (.cons (.ret (.comp (.var 7) (.name 7) [("_law_k", 7)] (.range2 (.int 1) (.blt "len" (.cons (.var 5) .nil))) (.on (.and (.cmp .Gt (.ix (.var 5) (.var 7)) (.var 4)) (.cmp .Eq (.bin .Mod (.bin .FloorDiv (.var 2) (.bin .LShift (.int 1) (.var 7))) (.int 2)) (.int 0)))))) .nil)))))
def f15 : Fn := ⟨"_law_comers", ["_law_program_here", "_law_pile", "_law_shut", "_law_frame", "_law_floor", "_law_ranks", "_law_row_here", "_law_k"], ["_law_program_here", "_law_pile"], b15⟩
/-- _law_begin -/
def b16 : Ss := (.cons (.set 1 (.lst .nil)) (.cons (.for (.name 2) (.val (.ix (.var 0) (.int 0))) (.cons (.set 1 (.bin .Add (.var 1) (.blt "list" (.cons (.ix (.var 2) (.int 1)) .nil)))) .nil)) (.cons (.ret (.tup (.cons (.tup (.cons (.tup (.cons (.int 0) (.cons (.int 0) (.cons (.int 0) (.cons (.tup .nil) .nil))))) .nil)) (.cons (.blt "tuple" (.cons (.var 1) .nil)) .nil)))) .nil)))
def f16 : Fn := ⟨"_law_begin", ["_law_program_here", "_law_cells_here", "_law_box"], ["_law_program_here"], b16⟩
/-- _law_come -/
def b17 : Ss := (.cons (.ret (.tup (.cons (.bin .Add (.ix (.var 0) (.int 0)) (.tup (.cons (.tup (.cons (.var 1) (.cons (.int 0) (.cons (.int 0) (.cons (.tup .nil) .nil))))) .nil))) (.cons (.ix (.var 0) (.int 1)) .nil)))) .nil)
def f17 : Fn := ⟨"_law_come", ["_law_state", "_law_bell"], ["_law_state", "_law_bell"], b17⟩
/-- _law_cells -/
def b18 : Ss := (.cons (.set 2 (.blt "sum" (.cons (.comp (.blt "len" (.cons (.ix (.ix (.var 0) (.var 4)) (.int 1)) .nil)) (.name 4) [("_law_y", 4)] (.range1 (.var 1)) .yes) .nil))) (.cons (.ret (.comp (.bin .Add (.var 2) (.var 3)) (.name 3) [("_law_k", 3)] (.range1 (.blt "len" (.cons (.ix (.ix (.var 0) (.var 1)) (.int 1)) .nil))) .yes)) .nil))
def f18 : Fn := ⟨"_law_cells", ["_law_boxes_here", "_law_x", "_law_first", "_law_k", "_law_y"], ["_law_boxes_here", "_law_x"], b18⟩
/-- _law_turns -/
def b19 : Ss := (.cons (.ife (.cmp .Eq (.ix (.var 1) (.int 0)) (.str "still")) (.cons (.ret (.comp (.tup (.cons (.str "rest") (.cons (.int 0) (.cons (.int 0) .nil)))) (.name 6) [("_law_k", 6)] (.range1 (.ix (.var 1) (.int 1))) .yes)) .nil) .nil) (.cons (.set 2 (.call 18 (.cons (.var 0) (.cons (.ix (.var 1) (.int 1)) .nil)))) (.cons (.ife (.cmp .Eq (.ix (.var 1) (.int 0)) (.str "put")) (.cons (.ret (.comp (.tup (.cons (.str "lay") (.cons (.ix (.var 2) (.var 6)) (.cons (.ix (.ix (.var 1) (.int 2)) (.var 6)) .nil)))) (.name 6) [("_law_k", 6)] (.range1 (.blt "len" (.cons (.var 2) .nil))) .yes)) .nil) .nil) (.cons (.ife (.cmp .Eq (.ix (.var 1) (.int 0)) (.str "tick")) (.cons (.ret (.lst (.cons (.tup (.cons (.str "tick") (.cons (.ix (.var 2) (.int 0)) (.cons (.int 0) .nil)))) .nil))) .nil) .nil) (.cons (.ife (.cmp .Eq (.ix (.var 1) (.int 0)) (.str "grow")) (.cons (.set 3 (.comp (.tup (.cons (.str "take") (.cons (.var 7) (.cons (.int 0) .nil)))) (.name 7) [("_law_cell", 7)] (.val (.var 2)) .yes)) (.cons (.ret (.bin .Add (.var 3) (.comp (.tup (.cons (.str "back") (.cons (.ix (.var 2) (.var 6)) (.cons (.tup (.cons (.var 6) (.cons (.ix (.var 1) (.int 2)) .nil))) .nil)))) (.name 6) [("_law_k", 6)] (.range1 (.blt "len" (.cons (.var 2) .nil))) .yes))) .nil)) .nil) (.cons (.ife (.cmp .Eq (.ix (.var 1) (.int 0)) (.str "copy")) (.cons (.set 4 (.call 18 (.cons (.var 0) (.cons (.ix (.var 1) (.int 2)) .nil)))) (.cons (.ret (.comp (.tup (.cons (.str "move") (.cons (.ix (.var 2) (.var 6)) (.cons (.ix (.var 4) (.var 6)) .nil)))) (.name 6) [("_law_k", 6)] (.range1 (.blt "len" (.cons (.var 2) .nil))) .yes)) .nil)) .nil) (.cons (.ife (.cmp .Eq (.ix (.var 1) (.int 0)) (.str "anew")) (.cons (.set 5 (.ix (.call 18 (.cons (.var 0) (.cons (.ix (.var 1) (.int 3)) .nil))) (.int 0))) (.cons (.set 3 (.bin .Add (.lst (.cons (.tup (.cons (.str "take") (.cons (.var 5) (.cons (.int 0) .nil)))) .nil)) (.comp (.tup (.cons (.str "take") (.cons (.var 7) (.cons (.int 0) .nil)))) (.name 7) [("_law_cell", 7)] (.val (.call 18 (.cons (.var 0) (.cons (.ix (.var 1) (.int 2)) .nil)))) .yes))) (.cons (.ret (.bin .Add (.bin .Add (.var 3) (.lst (.cons (.tup (.cons (.str "same") (.cons (.var 5) (.cons (.int 0) .nil)))) .nil))) (.comp (.tup (.cons (.str "back") (.cons (.ix (.var 2) (.var 6)) (.cons (.tup (.cons (.bin .Add (.var 6) (.int 1)) (.cons (.int 0) .nil))) .nil)))) (.name 6) [("_law_k", 6)] (.range1 (.blt "len" (.cons (.var 2) .nil))) .yes))) .nil))) .nil) (.cons (.ret (.lst (.cons (.tup (.cons (.str "rest") (.cons (.int 0) (.cons (.int 0) .nil)))) .nil))) .nil))))))))
def f19 : Fn := ⟨"_law_turns", ["_law_boxes_here", "_law_deed_here", "_law_own", "_law_turns_here", "_law_other", "_law_tally", "_law_k", "_law_cell"], ["_law_boxes_here", "_law_deed_here"], b19⟩
/-- _law_turn_done -/
def b20 : Ss := (.cons (.set 1 (.blt "list" (.cons (.var 1) .nil))) (.cons (.set 3 (.ix (.var 0) (.int 1))) (.cons (.ife (.cmp .Eq (.ix (.var 0) (.int 0)) (.str "lay")) (.cons (.stx 1 (.var 3) (.ix (.var 0) (.int 2))) .nil) .nil) (.cons (.ife (.cmp .Eq (.ix (.var 0) (.int 0)) (.str "tick")) (.cons (.stx 1 (.var 3) (.bin .Add (.ix (.var 1) (.var 3)) (.int 1))) .nil) .nil) (.cons (.ife (.cmp .Eq (.ix (.var 0) (.int 0)) (.str "move")) (.cons (.stx 1 (.var 3) (.ix (.var 1) (.ix (.var 0) (.int 2)))) .nil) .nil) (.cons (.ife (.cmp .Eq (.ix (.var 0) (.int 0)) (.str "take")) (.cons (.set 2 (.bin .Add (.var 2) (.tup (.cons (.ix (.var 1) (.var 3)) .nil)))) .nil) .nil) (.cons (.ife (.cmp .Eq (.ix (.var 0) (.int 0)) (.str "back")) (.cons (.stx 1 (.var 3) (.bin .Add (.ix (.var 2) (.ix (.ix (.var 0) (.int 2)) (.int 0))) (.ix (.ix (.var 0) (.int 2)) (.int 1)))) .nil) .nil) (.cons (.ret (.tup (.cons (.blt "tuple" (.cons (.var 1) .nil)) (.cons (.var 2) .nil)))) .nil))))))))
def f20 : Fn := ⟨"_law_turn_done", ["_law_turn", "_law_cells_here", "_law_hand", "_law_at"], ["_law_turn", "_law_cells_here", "_law_hand"], b20⟩
/-- _law_behind -/
def b21 : Ss := (.cons (.set 2 (.ix (.ix (.var 1) (.int 0)) (.neg (.int 1)))) (.cons (.set 3 (.slc (.ix (.var 1) (.int 0)) .no (.some (.neg (.int 1))))) (.cons (.set 4 (.ix (.ix (.ix (.var 0) (.int 1)) (.ix (.var 2) (.int 0))) (.int 2))) (.cons (.ife (.cmp .Eq (.ix (.var 2) (.int 1)) (.blt "len" (.cons (.var 4) .nil))) (.cons (.ret .non) .nil) .nil) (.cons (.set 5 (.call 19 (.cons (.ix (.var 0) (.int 0)) (.cons (.ix (.ix (.var 4) (.ix (.var 2) (.int 1))) (.int 0)) .nil)))) (.cons (.set 6 (.ix (.var 5) (.ix (.var 2) (.int 2)))) (.cons (.set 7 (.call 20 (.cons (.var 6) (.cons (.ix (.var 1) (.int 1)) (.cons (.ix (.var 2) (.int 3)) .nil))))) (.cons (.ife (.and (.cmp .Eq (.ix (.var 6) (.int 0)) (.str "same")) (.cmp .NotEq (.ix (.ix (.var 1) (.int 1)) (.ix (.var 6) (.int 1))) (.ix (.ix (.var 2) (.int 3)) (.int 0)))) (.cons (.ret (.tup (.cons (.bin .Add (.var 3) (.tup (.cons (.tup (.cons (.ix (.var 2) (.int 0)) (.cons (.ix (.var 2) (.int 1)) (.cons (.int 0) (.cons (.tup .nil) .nil))))) .nil))) (.cons (.ix (.var 7) (.int 0)) .nil)))) .nil) .nil) (.cons (.ife (.cmp .Lt (.bin .Add (.ix (.var 2) (.int 2)) (.int 1)) (.blt "len" (.cons (.var 5) .nil))) (.cons (.ret (.tup (.cons (.bin .Add (.var 3) (.tup (.cons (.tup (.cons (.ix (.var 2) (.int 0)) (.cons (.ix (.var 2) (.int 1)) (.cons (.bin .Add (.ix (.var 2) (.int 2)) (.int 1)) (.cons (.ix (.var 7) (.int 1)) .nil))))) .nil))) (.cons (.ix (.var 7) (.int 0)) .nil)))) .nil) .nil) (.cons (.ife (.and (.cmp .Gt (.ix (.var 2) (.int 0)) (.int 0)) (.cmp .Eq (.bin .Add (.ix (.var 2) (.int 1)) (.int 1)) (.blt "len" (.cons (.var 4) .nil)))) (.cons (.ret (.tup (.cons (.var 3) (.cons (.ix (.var 7) (.int 0)) .nil)))) .nil) .nil) (.cons (.ret (.tup (.cons (.bin .Add (.var 3) (.tup (.cons (.tup (.cons (.ix (.var 2) (.int 0)) (.cons (.bin .Add (.ix (.var 2) (.int 1)) (.int 1)) (.cons (.int 0) (.cons (.tup .nil) .nil))))) .nil))) (.cons (.ix (.var 7) (.int 0)) .nil)))) .nil)))))))))))
def f21 : Fn := ⟨"_law_behind", ["_law_program_here", "_law_state", "_law_frame", "_law_under", "_law_places", "_law_turns_here", "_law_turn", "_law_done"], ["_law_program_here", "_law_state"], b21⟩
/-- _law_next -/
def b22 : Ss := (.cons (.set 3 (.call 15 (.cons (.var 0) (.cons (.ix (.var 1) (.int 0)) .nil)))) (.cons (.ife (.and (.cmp .Eq (.bin .Mod (.var 2) (.int 3)) (.int 0)) (.cmp .Gt (.blt "len" (.cons (.var 3) .nil)) (.int 0))) (.cons (.ret (.call 17 (.cons (.var 1) (.cons (.ix (.var 3) (.bin .Mod (.bin .FloorDiv (.var 2) (.int 3)) (.blt "len" (.cons (.var 3) .nil)))) .nil)))) .nil) .nil) (.cons (.set 4 (.call 21 (.cons (.var 0) (.cons (.var 1) .nil)))) (.cons (.ife (.cmp .IsNot (.var 4) .non) (.cons (.ret (.var 4)) .nil) .nil) (.cons (.ife (.cmp .Gt (.blt "len" (.cons (.var 3) .nil)) (.int 0)) (.cons (.ret (.call 17 (.cons (.var 1) (.cons (.ix (.var 3) (.bin .Mod (.bin .FloorDiv (.var 2) (.int 3)) (.blt "len" (.cons (.var 3) .nil)))) .nil)))) .nil) .nil) (.cons (.ret (.var 1)) .nil))))))
def f22 : Fn := ⟨"_law_next", ["_law_program_here", "_law_state", "_law_cell", "_law_comers_here", "_law_later"], ["_law_program_here", "_law_state", "_law_cell"], b22⟩
/-- _law_alike -/
def b23 : Ss := (.cons (.ife (.or (.val (.isi (.var 1) "tuple")) (.val (.isi (.var 1) "list"))) (.cons (.ife (.and (.val (.isi (.var 1) "tuple")) (.not (.val (.isi (.var 0) "tuple")))) (.cons (.ret (.bl false)) .nil) .nil) (.cons (.ife (.and (.val (.isi (.var 1) "list")) (.not (.val (.isi (.var 0) "list")))) (.cons (.ret (.bl false)) .nil) .nil) (.cons (.ife (.cmp .NotEq (.blt "len" (.cons (.var 0) .nil)) (.blt "len" (.cons (.var 1) .nil))) (.cons (.ret (.bl false)) .nil) .nil) (.cons (.ret (.blt "all" (.cons (.comp (.call 23 (.cons (.ix (.var 0) (.var 2)) (.cons (.ix (.var 1) (.var 2)) .nil))) (.name 2) [("_law_k", 2)] (.range1 (.blt "len" (.cons (.var 1) .nil))) .yes) .nil))) .nil)))) .nil) (.cons (.ife (.cmp .Is (.var 1) .non) (.cons (.ret (.cmp .Is (.var 0) .non)) .nil) .nil) (.cons (.ife (.val (.isi (.var 1) "str")) (.cons (.ret (.and (.isi (.var 0) "str") (.cmp .Eq (.var 0) (.var 1)))) .nil) .nil) (.cons (.ret (.and (.isi (.var 0) "int") (.and (.not (.isi (.var 0) "bool")) (.cmp .Eq (.var 0) (.var 1))))) .nil))))
def f23 : Fn := ⟨"_law_alike", ["_law_found", "_law_due", "_law_k"], ["_law_found", "_law_due"], b23⟩
/-- law -/
def b24 : Ss := (.cons (.set 1 (.call 13 (.cons (.var 0) (.cons (.bin .Mod (.call 8 (.cons (.var 0) (.cons (.int 1) .nil))) (.int 7)) (.cons (.int 4) (.cons (.int 9) .nil)))))) (.cons (.set 2 (.call 16 (.cons (.var 1) .nil))) (.cons (.ife (.not (.val (.call 23 (.cons (.call 5 (.cons (.var 1) .nil)) (.cons (.var 2) .nil))))) (.cons (.ret (.bl false)) .nil) .nil) (.cons (.for (.name 3) (.val (.bin .Add (.lst (.cons (.int 0) .nil)) (.slc (.var 0) .no (.some (.int 80))))) (.cons (.set 4 (.call 15 (.cons (.var 1) (.cons (.ix (.var 2) (.int 0)) .nil)))) (.cons (.ife (.not (.val (.call 23 (.cons (.call 6 (.cons (.var 1) (.cons (.var 2) .nil))) (.cons (.var 4) .nil))))) (.cons (.ret (.bl false)) .nil) .nil) (.cons (.for (.name 5) (.val (.var 4)) (.cons (.ife (.not (.val (.call 23 (.cons (.call 7 (.cons (.var 1) (.cons (.var 2) (.cons (.var 5) .nil)))) (.cons (.call 17 (.cons (.var 2) (.cons (.var 5) .nil))) .nil))))) (.cons (.ret (.bl false)) .nil) .nil) .nil)) (.cons (.set 2 (.call 22 (.cons (.var 1) (.cons (.var 2) (.cons (.bin .Mod (.var 3) (.int 1000003)) .nil))))) .nil))))) (.cons (.ret (.bl true)) .nil)))))
def f24 : Fn := ⟨"law", ["_law_script", "_law_program_here", "_law_state", "_law_cell", "_law_comers_here", "_law_bell"], ["_law_script"], b24⟩
def P : List Fn := [f0, f1, f2, f3, f4, f5, f6, f7, f8, f9, f10, f11, f12, f13, f14, f15, f16, f17, f18, f19, f20, f21, f22, f23, f24]
def Gl : List (Str × PV) := []
theorem r0 (n : Nat) {a0 : PV} : fns P (n + 1) 0 [a0] = finK (exs (fns P n) b0 [some (.sh a0), none, none]) := rfl
theorem r1 (n : Nat) {a0 a1 a2 : PV} : fns P (n + 1) 1 [a0, a1, a2] = finK (exs (fns P n) b1 [some (.sh a0), some (.sh a1), some (.sh a2), none]) := rfl
theorem r2 (n : Nat) {a0 a1 : PV} : fns P (n + 1) 2 [a0, a1] = finK (exs (fns P n) b2 [some (.sh a0), some (.sh a1), none, none]) := rfl
theorem r3 (n : Nat) {a0 a1 a2 : PV} : fns P (n + 1) 3 [a0, a1, a2] = finK (exs (fns P n) b3 [some (.sh a0), some (.sh a1), some (.sh a2), none]) := rfl
theorem r4 (n : Nat) {a0 a1 : PV} : fns P (n + 1) 4 [a0, a1] = finK (exs (fns P n) b4 [some (.sh a0), some (.sh a1)]) := rfl
theorem r5 (n : Nat) {a0 : PV} : fns P (n + 1) 5 [a0] = finK (exs (fns P n) b5 [some (.sh a0)]) := rfl
theorem r6 (n : Nat) {a0 a1 : PV} : fns P (n + 1) 6 [a0, a1] = finK (exs (fns P n) b6 [some (.sh a0), some (.sh a1), none]) := rfl
theorem r7 (n : Nat) {a0 a1 a2 : PV} : fns P (n + 1) 7 [a0, a1, a2] = finK (exs (fns P n) b7 [some (.sh a0), some (.sh a1), some (.sh a2)]) := rfl
theorem r8 (n : Nat) {a0 a1 : PV} : fns P (n + 1) 8 [a0, a1] = finK (exs (fns P n) b8 [some (.sh a0), some (.sh a1), none, none]) := rfl
theorem r9 (n : Nat) {a0 a1 : PV} : fns P (n + 1) 9 [a0, a1] = finK (exs (fns P n) b9 [some (.sh a0), some (.sh a1), none, none]) := rfl
theorem r10 (n : Nat) {a0 : PV} : fns P (n + 1) 10 [a0] = finK (exs (fns P n) b10 [some (.sh a0), none, none, none, none, none, none, none]) := rfl
theorem r11 (n : Nat) {a0 a1 a2 a3 : PV} : fns P (n + 1) 11 [a0, a1, a2, a3] = finK (exs (fns P n) b11 [some (.sh a0), some (.sh a1), some (.sh a2), some (.sh a3), none, none, none, none, none, none, none, none, none, none, none]) := rfl
theorem r12 (n : Nat) {a0 a1 a2 a3 a4 a5 : PV} : fns P (n + 1) 12 [a0, a1, a2, a3, a4, a5] = finK (exs (fns P n) b12 [some (.sh a0), some (.sh a1), some (.sh a2), some (.sh a3), some (.sh a4), some (.sh a5), none, none, none, none, none]) := rfl
theorem r13 (n : Nat) {a0 a1 a2 a3 : PV} : fns P (n + 1) 13 [a0, a1, a2, a3] = finK (exs (fns P n) b13 [some (.sh a0), some (.sh a1), some (.sh a2), some (.sh a3), none, none, none, none, none]) := rfl
theorem r14 (n : Nat) {a0 a1 : PV} : fns P (n + 1) 14 [a0, a1] = finK (exs (fns P n) b14 [some (.sh a0), some (.sh a1), none]) := rfl
theorem r15 (n : Nat) {a0 a1 : PV} : fns P (n + 1) 15 [a0, a1] = finK (exs (fns P n) b15 [some (.sh a0), some (.sh a1), none, none, none, none, none, none]) := rfl
theorem r16 (n : Nat) {a0 : PV} : fns P (n + 1) 16 [a0] = finK (exs (fns P n) b16 [some (.sh a0), none, none]) := rfl
theorem r17 (n : Nat) {a0 a1 : PV} : fns P (n + 1) 17 [a0, a1] = finK (exs (fns P n) b17 [some (.sh a0), some (.sh a1)]) := rfl
theorem r18 (n : Nat) {a0 a1 : PV} : fns P (n + 1) 18 [a0, a1] = finK (exs (fns P n) b18 [some (.sh a0), some (.sh a1), none, none, none]) := rfl
theorem r19 (n : Nat) {a0 a1 : PV} : fns P (n + 1) 19 [a0, a1] = finK (exs (fns P n) b19 [some (.sh a0), some (.sh a1), none, none, none, none, none, none]) := rfl
theorem r20 (n : Nat) {a0 a1 a2 : PV} : fns P (n + 1) 20 [a0, a1, a2] = finK (exs (fns P n) b20 [some (.sh a0), some (.sh a1), some (.sh a2), none]) := rfl
theorem r21 (n : Nat) {a0 a1 : PV} : fns P (n + 1) 21 [a0, a1] = finK (exs (fns P n) b21 [some (.sh a0), some (.sh a1), none, none, none, none, none, none]) := rfl
theorem r22 (n : Nat) {a0 a1 a2 : PV} : fns P (n + 1) 22 [a0, a1, a2] = finK (exs (fns P n) b22 [some (.sh a0), some (.sh a1), some (.sh a2), none, none]) := rfl
theorem r23 (n : Nat) {a0 a1 : PV} : fns P (n + 1) 23 [a0, a1] = finK (exs (fns P n) b23 [some (.sh a0), some (.sh a1), none]) := rfl
theorem r24 (n : Nat) {a0 : PV} : fns P (n + 1) 24 [a0] = finK (exs (fns P n) b24 [some (.sh a0), none, none, none, none, none]) := rfl
local macro_rules | `(tactic| walk_at "mir") => `(tactic| simp (maxSteps := 4000000) (disch := first | omega | assumption | ((try simp only [List.length_cons, List.length_nil, List.length_append, List.length_map, List.length_range]); omega) | decide) only [↓Mir.k_non, ↓Mir.k_bl, ↓Mir.k_int, ↓Mir.k_str, ↓Mir.k_glob, ↓Mir.k_var_sh0, ↓Mir.k_var_own0, ↓Mir.k_var_sh1, ↓Mir.k_var_own1, ↓Mir.k_var_sh2, ↓Mir.k_var_own2, ↓Mir.k_var_sh3, ↓Mir.k_var_own3, ↓Mir.k_var_sh4, ↓Mir.k_var_own4, ↓Mir.k_var_sh5, ↓Mir.k_var_own5, ↓Mir.k_var_sh6, ↓Mir.k_var_own6, ↓Mir.k_var_sh7, ↓Mir.k_var_own7, ↓Mir.k_var_sh8, ↓Mir.k_var_own8, ↓Mir.k_var_sh9, ↓Mir.k_var_own9, ↓Mir.k_var_sh10, ↓Mir.k_var_own10, ↓Mir.k_var_sh11, ↓Mir.k_var_own11, ↓Mir.k_var_sh12, ↓Mir.k_var_own12, ↓Mir.k_var_sh13, ↓Mir.k_var_own13, ↓Mir.k_var_sh14, ↓Mir.k_var_own14, ↓Mir.k_var_sh15, ↓Mir.k_var_own15, ↓Mir.k_var_sh16, ↓Mir.k_var_own16, ↓Mir.k_var_sh17, ↓Mir.k_var_own17, ↓Mir.k_var_sh18, ↓Mir.k_var_own18, ↓Mir.k_var_sh19, ↓Mir.k_var_own19, ↓Mir.k_var_sh20, ↓Mir.k_var_own20, ↓Mir.k_var_sh21, ↓Mir.k_var_own21, ↓Mir.k_var_sh22, ↓Mir.k_var_own22, ↓Mir.k_var_sh23, ↓Mir.k_var_own23, ↓Mir.k_var_sh24, ↓Mir.k_var_own24, ↓Mir.k_var_sh25, ↓Mir.k_var_own25, ↓Mir.k_bin, ↓Mir.k_cmp, ↓Mir.ifB_t, ↓Mir.ifB_f, ↓Mir.k_chain, ↓Mir.boolK_bl, ↓Mir.intK_int, ↓Mir.k_and, ↓Mir.k_or, ↓Mir.k_not, ↓Mir.k_neg, ↓Mir.k_inv, ↓Mir.k_ife, ↓Mir.k_ix, ↓Mir.k_slc, ↓Mir.k_tup, ↓Mir.k_lst, ↓Mir.k_call, ↓Mir.callK_1, ↓Mir.callK_2, ↓Mir.callK_3, ↓Mir.callK_4, ↓Mir.callK_5, ↓Mir.callK_6, ↓Mir.callK_7, ↓Mir.callK_8, ↓Mir.callK_Int, ↓Mir.callK_Bool, ↓Mir.callK_Str, ↓Mir.callK_non, ↓Mir.k_blt, ↓Mir.k_isi, ↓Mir.k_meth, ↓Mir.k_comp, ↓Mir.k_no, ↓Mir.k_some, ↓Mir.k_yes, ↓Mir.k_on, ↓Mir.k_nil, ↓Mir.k_cons, ↓Mir.t_val, ↓Mir.t_cmp, ↓Mir.t_chain, ↓Mir.t_and, ↓Mir.t_or, ↓Mir.t_not, ↓Mir.i_val, ↓Mir.i_range1, ↓Mir.i_range2, ↓Mir.lstK_lst, ↓Mir.i_enum, ↓Mir.seqK_lst, ↓Mir.seqK_tup, ↓Mir.i_rev, ↓Mir.i_zip, ↓Mir.p_sh, ↓Mir.p_own, ↓Mir.ps_nil, ↓Mir.ps_cons, ↓Mir.f_sh, ↓Mir.f_own, ↓Mir.fs_nil, ↓Mir.fs_cons, ↓Mir.fo_t, ↓Mir.p_b_own0, ↓Mir.p_b_sh0, ↓Mir.f_b0, ↓Mir.fo_b0, ↓Mir.p_b_own1, ↓Mir.p_b_sh1, ↓Mir.f_b1, ↓Mir.fo_b1, ↓Mir.p_b_own2, ↓Mir.p_b_sh2, ↓Mir.f_b2, ↓Mir.fo_b2, ↓Mir.p_b_own3, ↓Mir.p_b_sh3, ↓Mir.f_b3, ↓Mir.fo_b3, ↓Mir.p_b_own4, ↓Mir.p_b_sh4, ↓Mir.f_b4, ↓Mir.fo_b4, ↓Mir.p_b_own5, ↓Mir.p_b_sh5, ↓Mir.f_b5, ↓Mir.fo_b5, ↓Mir.p_b_own6, ↓Mir.p_b_sh6, ↓Mir.f_b6, ↓Mir.fo_b6, ↓Mir.p_b_own7, ↓Mir.p_b_sh7, ↓Mir.f_b7, ↓Mir.fo_b7, ↓Mir.p_b_own8, ↓Mir.p_b_sh8, ↓Mir.f_b8, ↓Mir.fo_b8, ↓Mir.p_b_own9, ↓Mir.p_b_sh9, ↓Mir.f_b9, ↓Mir.fo_b9, ↓Mir.p_b_own10, ↓Mir.p_b_sh10, ↓Mir.f_b10, ↓Mir.fo_b10, ↓Mir.p_b_own11, ↓Mir.p_b_sh11, ↓Mir.f_b11, ↓Mir.fo_b11, ↓Mir.p_b_own12, ↓Mir.p_b_sh12, ↓Mir.f_b12, ↓Mir.fo_b12, ↓Mir.p_b_own13, ↓Mir.p_b_sh13, ↓Mir.f_b13, ↓Mir.fo_b13, ↓Mir.p_b_own14, ↓Mir.p_b_sh14, ↓Mir.f_b14, ↓Mir.fo_b14, ↓Mir.p_b_own15, ↓Mir.p_b_sh15, ↓Mir.f_b15, ↓Mir.fo_b15, ↓Mir.p_b_own16, ↓Mir.p_b_sh16, ↓Mir.f_b16, ↓Mir.fo_b16, ↓Mir.p_b_own17, ↓Mir.p_b_sh17, ↓Mir.f_b17, ↓Mir.fo_b17, ↓Mir.p_b_own18, ↓Mir.p_b_sh18, ↓Mir.f_b18, ↓Mir.fo_b18, ↓Mir.p_b_own19, ↓Mir.p_b_sh19, ↓Mir.f_b19, ↓Mir.fo_b19, ↓Mir.p_b_own20, ↓Mir.p_b_sh20, ↓Mir.f_b20, ↓Mir.fo_b20, ↓Mir.p_b_own21, ↓Mir.p_b_sh21, ↓Mir.f_b21, ↓Mir.fo_b21, ↓Mir.p_b_own22, ↓Mir.p_b_sh22, ↓Mir.f_b22, ↓Mir.fo_b22, ↓Mir.p_b_own23, ↓Mir.p_b_sh23, ↓Mir.f_b23, ↓Mir.fo_b23, ↓Mir.p_b_own24, ↓Mir.p_b_sh24, ↓Mir.f_b24, ↓Mir.fo_b24, ↓Mir.p_b_own25, ↓Mir.p_b_sh25, ↓Mir.f_b25, ↓Mir.fo_b25, ↓Mir.pv_sh, ↓Mir.pv_own, ↓Mir.bt_name0, ↓Mir.sa_0, ↓Mir.bt_name1, ↓Mir.sa_1, ↓Mir.bt_name2, ↓Mir.sa_2, ↓Mir.bt_name3, ↓Mir.sa_3, ↓Mir.bt_name4, ↓Mir.sa_4, ↓Mir.bt_name5, ↓Mir.sa_5, ↓Mir.bt_name6, ↓Mir.sa_6, ↓Mir.bt_name7, ↓Mir.sa_7, ↓Mir.bt_name8, ↓Mir.sa_8, ↓Mir.bt_name9, ↓Mir.sa_9, ↓Mir.bt_name10, ↓Mir.sa_10, ↓Mir.bt_name11, ↓Mir.sa_11, ↓Mir.bt_name12, ↓Mir.sa_12, ↓Mir.bt_name13, ↓Mir.sa_13, ↓Mir.bt_name14, ↓Mir.sa_14, ↓Mir.bt_name15, ↓Mir.sa_15, ↓Mir.bt_name16, ↓Mir.sa_16, ↓Mir.bt_name17, ↓Mir.sa_17, ↓Mir.bt_name18, ↓Mir.sa_18, ↓Mir.bt_name19, ↓Mir.sa_19, ↓Mir.bt_name20, ↓Mir.sa_20, ↓Mir.bt_name21, ↓Mir.sa_21, ↓Mir.bt_name22, ↓Mir.sa_22, ↓Mir.bt_name23, ↓Mir.sa_23, ↓Mir.bt_name24, ↓Mir.sa_24, ↓Mir.bt_name25, ↓Mir.sa_25, ↓Mir.sa_end, ↓Mir.bt_tup, ↓Mir.b_Add, ↓Mir.b_Sub, ↓Mir.b_BitAnd, ↓Mir.b_BitOr, ↓Mir.b_BitXor, ↓Mir.b_Mult, ↓Mir.b_Mod, ↓Mir.b_FloorDiv, ↓Mir.b_Pow, ↓Mir.b_LShift, ↓Mir.b_RShift, ↓Mir.b_Add_str, ↓Mir.b_Add_lst, ↓Mir.b_Add_tup, ↓Mir.c_Lt, ↓Mir.c_LtE, ↓Mir.c_Gt, ↓Mir.c_GtE, ↓Mir.c_Eq, ↓Mir.c_NotEq, ↓Mir.c_Eq_str, ↓Mir.c_NotEq_str, ↓Mir.c_Eq_bl, ↓Mir.c_NotEq_bl, ↓Mir.c_Eq_int_str, ↓Mir.c_NotEq_int_str, ↓Mir.c_Eq_str_int, ↓Mir.c_NotEq_str_int, ↓Mir.c_Eq_bl_str, ↓Mir.c_NotEq_bl_str, ↓Mir.c_Eq_str_bl, ↓Mir.c_NotEq_str_bl, ↓Mir.c_Eq_int_non, ↓Mir.c_NotEq_int_non, ↓Mir.c_Eq_str_non, ↓Mir.c_NotEq_str_non, ↓Mir.c_Eq_bl_non, ↓Mir.c_NotEq_bl_non, ↓Mir.c_Is_int, ↓Mir.c_IsNot_int, ↓Mir.c_Is_str, ↓Mir.c_IsNot_str, ↓Mir.c_Is_bl, ↓Mir.c_IsNot_bl, ↓Mir.c_Is_tup, ↓Mir.c_IsNot_tup, ↓Mir.c_Is_lst, ↓Mir.c_IsNot_lst, ↓Mir.c_Is_non, ↓Mir.c_IsNot_non, ↓Mir.c_In, ↓Mir.c_NotIn, ↓Mir.tr_bl, ↓Mir.tr_int, ↓Mir.tr_lst, ↓Mir.tr_tup, ↓Mir.tr_non, ↓Mir.x_lst, ↓Mir.x_tup, ↓Mir.at_0, ↓Mir.at_1, ↓Mir.at_2, ↓Mir.at_3, ↓Mir.at_4, ↓Mir.at_5, ↓Mir.at_6, ↓Mir.at_7, ↓Mir.sl_lst, ↓Mir.sl_tup, ↓Mir.bl_len_lst, ↓Mir.bl_len_tup, ↓Mir.bl_abs, ↓Mir.bl_max, ↓Mir.bl_min, ↓Mir.bl_int_int, ↓Mir.bl_int_bl, ↓Mir.bl_list_lst, ↓Mir.bl_list_tup, ↓Mir.bl_tuple_lst, ↓Mir.bl_tuple_tup, ↓Mir.bl_sum, ↓Mir.bl_all, ↓Mir.bl_any, ↓Mir.bl_sorted, ↓Mir.as_ints, ↓Mir.as_bls, ↓Mir.as_strs, ↓Mir.is_non_tuple, ↓Mir.is_non_list, ↓Mir.is_non_bool, ↓Mir.is_non_int, ↓Mir.is_non_str, ↓Mir.is_bl_tuple, ↓Mir.is_bl_list, ↓Mir.is_bl_bool, ↓Mir.is_bl_int, ↓Mir.is_bl_str, ↓Mir.is_int_tuple, ↓Mir.is_int_list, ↓Mir.is_int_bool, ↓Mir.is_int_int, ↓Mir.is_int_str, ↓Mir.is_str_tuple, ↓Mir.is_str_list, ↓Mir.is_str_bool, ↓Mir.is_str_int, ↓Mir.is_str_str, ↓Mir.is_lst_tuple, ↓Mir.is_lst_list, ↓Mir.is_lst_bool, ↓Mir.is_lst_int, ↓Mir.is_lst_str, ↓Mir.is_tup_tuple, ↓Mir.is_tup_list, ↓Mir.is_tup_bool, ↓Mir.is_tup_int, ↓Mir.is_tup_str, ↓Mir.it_lst, ↓Mir.it_tup, ↓Mir.z_lst, ↓Mir.z_tup, ↓Mir.s_nil, ↓Mir.s_set, ↓Mir.s_expr, ↓Mir.s_ret, ↓Mir.s_retN, ↓Mir.s_pass, ↓Mir.s_brk, ↓Mir.ifS_t, ↓Mir.ifS_f, ↓Mir.s_if, ↓Mir.s_for, ↓Mir.s_while, ↓Mir.s_app0, ↓Mir.appE_0, ↓Mir.s_ext0, ↓Mir.extE_0, ↓Mir.setE_0, ↓Mir.s_app1, ↓Mir.appE_1, ↓Mir.s_ext1, ↓Mir.extE_1, ↓Mir.setE_1, ↓Mir.s_app2, ↓Mir.appE_2, ↓Mir.s_ext2, ↓Mir.extE_2, ↓Mir.setE_2, ↓Mir.s_app3, ↓Mir.appE_3, ↓Mir.s_ext3, ↓Mir.extE_3, ↓Mir.setE_3, ↓Mir.s_app4, ↓Mir.appE_4, ↓Mir.s_ext4, ↓Mir.extE_4, ↓Mir.setE_4, ↓Mir.s_app5, ↓Mir.appE_5, ↓Mir.s_ext5, ↓Mir.extE_5, ↓Mir.setE_5, ↓Mir.s_app6, ↓Mir.appE_6, ↓Mir.s_ext6, ↓Mir.extE_6, ↓Mir.setE_6, ↓Mir.s_app7, ↓Mir.appE_7, ↓Mir.s_ext7, ↓Mir.extE_7, ↓Mir.setE_7, ↓Mir.s_app8, ↓Mir.appE_8, ↓Mir.s_ext8, ↓Mir.extE_8, ↓Mir.setE_8, ↓Mir.s_app9, ↓Mir.appE_9, ↓Mir.s_ext9, ↓Mir.extE_9, ↓Mir.setE_9, ↓Mir.s_app10, ↓Mir.appE_10, ↓Mir.s_ext10, ↓Mir.extE_10, ↓Mir.setE_10, ↓Mir.s_app11, ↓Mir.appE_11, ↓Mir.s_ext11, ↓Mir.extE_11, ↓Mir.setE_11, ↓Mir.s_app12, ↓Mir.appE_12, ↓Mir.s_ext12, ↓Mir.extE_12, ↓Mir.setE_12, ↓Mir.s_app13, ↓Mir.appE_13, ↓Mir.s_ext13, ↓Mir.extE_13, ↓Mir.setE_13, ↓Mir.s_app14, ↓Mir.appE_14, ↓Mir.s_ext14, ↓Mir.extE_14, ↓Mir.setE_14, ↓Mir.s_app15, ↓Mir.appE_15, ↓Mir.s_ext15, ↓Mir.extE_15, ↓Mir.setE_15, ↓Mir.s_app16, ↓Mir.appE_16, ↓Mir.s_ext16, ↓Mir.extE_16, ↓Mir.setE_16, ↓Mir.s_app17, ↓Mir.appE_17, ↓Mir.s_ext17, ↓Mir.extE_17, ↓Mir.setE_17, ↓Mir.s_app18, ↓Mir.appE_18, ↓Mir.s_ext18, ↓Mir.extE_18, ↓Mir.setE_18, ↓Mir.s_app19, ↓Mir.appE_19, ↓Mir.s_ext19, ↓Mir.extE_19, ↓Mir.setE_19, ↓Mir.s_app20, ↓Mir.appE_20, ↓Mir.s_ext20, ↓Mir.extE_20, ↓Mir.setE_20, ↓Mir.s_app21, ↓Mir.appE_21, ↓Mir.s_ext21, ↓Mir.extE_21, ↓Mir.setE_21, ↓Mir.s_app22, ↓Mir.appE_22, ↓Mir.s_ext22, ↓Mir.extE_22, ↓Mir.setE_22, ↓Mir.s_app23, ↓Mir.appE_23, ↓Mir.s_ext23, ↓Mir.extE_23, ↓Mir.setE_23, ↓Mir.s_app24, ↓Mir.appE_24, ↓Mir.s_ext24, ↓Mir.extE_24, ↓Mir.setE_24, ↓Mir.s_app25, ↓Mir.appE_25, ↓Mir.s_ext25, ↓Mir.extE_25, ↓Mir.setE_25, ↓Mir.ifS_not, ↓Mir.ifS_pos, ↓Mir.ifS_neg, ↓Mir.ifB_not, ↓Mir.ifB_pos, ↓Mir.ifB_neg, ↓Mir.turnC_eq, ↓Mir.shNs_nil, ↓Mir.shNs_cons, ↓Mir.shN1_ok, Mir.shN1_none, Mir.shN1_sh, Mir.wipe_nil, Mir.wipe_cons, Mir.back_nil, Mir.back_cons, List.set_cons_zero, List.set_cons_succ, List.getD_cons_zero, List.getD_cons_succ, List.map_cons, List.map_nil, ↓Mir.limK_le, ↓Mir.inRK_ok, ↓Mir.okK_ok, ↓Mir.appK_ok, ↓Mir.extK_ok, ↓Mir.finK_ret, ↓Mir.finK_next, ↓Mir.finK_for, ↓Mir.finK_while, ↓Mir.finK_comp, ↓Mir.finK_ifB, ↓Mir.finK_ifS, Mir.app_nil, Mir.app_cons, Mir.flK_next, Mir.flK_ret, Mir.flK_brk, Option.bind_none, decide_true, decide_false, Bool.not_true, Bool.not_false, Mir.pv_sh, Mir.pv_own, List.cons_append, List.nil_append, Mir.okK_ok, Int.reducePow, Int.reduceToNat, Int.reduceMul, Int.reduceAdd, Int.reduceSub, Int.reduceNeg, Nat.reducePow, Nat.reduceMul, Nat.reduceAdd, Nat.reduceSub, Int.one_mul, Int.zero_add, Int.zero_mul, ↓Mir.atI_nat, Int.toNat_natCast])
/-- the mixed number -/
def mcell (ns : List Int) (k : Int) : Int := if 0 < ns.length then ns.getD (k.fmod ns.length).toNat 0 else 0
def mv (ns : List Int) (k : Int) : Int := ((mcell ns k).fmod 1000003 * 48271 + k * k * 7919 + 1).fmod 65521
def mx (ns : List Int) (k : Int) : Int := (mv ns k * mv ns k).fmod 65519
theorem mx_lo (ns : List Int) (k : Int) : 0 ≤ mx ns k := Int.fmod_nonneg_of_pos _ (by decide)
theorem mx_hi (ns : List Int) (k : Int) : mx ns k < 65519 := Int.fmod_lt_of_pos _ (by decide)
local macro_rules | `(tactic| walk_at "mxm") => `(tactic| simp (maxSteps := 4000000) (disch := first | omega | assumption | ((try simp only [List.length_cons, List.length_nil, List.length_append, List.length_map, List.length_range]); omega) | decide) only [↓Mir.atI_int, ↓List.length_map, ↓Mir.k_non, ↓Mir.k_bl, ↓Mir.k_int, ↓Mir.k_str, ↓Mir.k_glob, ↓Mir.k_var_sh0, ↓Mir.k_var_own0, ↓Mir.k_var_sh1, ↓Mir.k_var_own1, ↓Mir.k_var_sh2, ↓Mir.k_var_own2, ↓Mir.k_var_sh3, ↓Mir.k_var_own3, ↓Mir.k_var_sh4, ↓Mir.k_var_own4, ↓Mir.k_var_sh5, ↓Mir.k_var_own5, ↓Mir.k_var_sh6, ↓Mir.k_var_own6, ↓Mir.k_var_sh7, ↓Mir.k_var_own7, ↓Mir.k_var_sh8, ↓Mir.k_var_own8, ↓Mir.k_var_sh9, ↓Mir.k_var_own9, ↓Mir.k_var_sh10, ↓Mir.k_var_own10, ↓Mir.k_var_sh11, ↓Mir.k_var_own11, ↓Mir.k_var_sh12, ↓Mir.k_var_own12, ↓Mir.k_var_sh13, ↓Mir.k_var_own13, ↓Mir.k_var_sh14, ↓Mir.k_var_own14, ↓Mir.k_var_sh15, ↓Mir.k_var_own15, ↓Mir.k_var_sh16, ↓Mir.k_var_own16, ↓Mir.k_var_sh17, ↓Mir.k_var_own17, ↓Mir.k_var_sh18, ↓Mir.k_var_own18, ↓Mir.k_var_sh19, ↓Mir.k_var_own19, ↓Mir.k_var_sh20, ↓Mir.k_var_own20, ↓Mir.k_var_sh21, ↓Mir.k_var_own21, ↓Mir.k_var_sh22, ↓Mir.k_var_own22, ↓Mir.k_var_sh23, ↓Mir.k_var_own23, ↓Mir.k_var_sh24, ↓Mir.k_var_own24, ↓Mir.k_var_sh25, ↓Mir.k_var_own25, ↓Mir.k_bin, ↓Mir.k_cmp, ↓Mir.ifB_t, ↓Mir.ifB_f, ↓Mir.k_chain, ↓Mir.boolK_bl, ↓Mir.intK_int, ↓Mir.k_and, ↓Mir.k_or, ↓Mir.k_not, ↓Mir.k_neg, ↓Mir.k_inv, ↓Mir.k_ife, ↓Mir.k_ix, ↓Mir.k_slc, ↓Mir.k_tup, ↓Mir.k_lst, ↓Mir.k_call, ↓Mir.callK_1, ↓Mir.callK_2, ↓Mir.callK_3, ↓Mir.callK_4, ↓Mir.callK_5, ↓Mir.callK_6, ↓Mir.callK_7, ↓Mir.callK_8, ↓Mir.callK_Int, ↓Mir.callK_Bool, ↓Mir.callK_Str, ↓Mir.callK_non, ↓Mir.k_blt, ↓Mir.k_isi, ↓Mir.k_meth, ↓Mir.k_comp, ↓Mir.k_no, ↓Mir.k_some, ↓Mir.k_yes, ↓Mir.k_on, ↓Mir.k_nil, ↓Mir.k_cons, ↓Mir.t_val, ↓Mir.t_cmp, ↓Mir.t_chain, ↓Mir.t_and, ↓Mir.t_or, ↓Mir.t_not, ↓Mir.i_val, ↓Mir.i_range1, ↓Mir.i_range2, ↓Mir.lstK_lst, ↓Mir.i_enum, ↓Mir.seqK_lst, ↓Mir.seqK_tup, ↓Mir.i_rev, ↓Mir.i_zip, ↓Mir.p_sh, ↓Mir.p_own, ↓Mir.ps_nil, ↓Mir.ps_cons, ↓Mir.f_sh, ↓Mir.f_own, ↓Mir.fs_nil, ↓Mir.fs_cons, ↓Mir.fo_t, ↓Mir.p_b_own0, ↓Mir.p_b_sh0, ↓Mir.f_b0, ↓Mir.fo_b0, ↓Mir.p_b_own1, ↓Mir.p_b_sh1, ↓Mir.f_b1, ↓Mir.fo_b1, ↓Mir.p_b_own2, ↓Mir.p_b_sh2, ↓Mir.f_b2, ↓Mir.fo_b2, ↓Mir.p_b_own3, ↓Mir.p_b_sh3, ↓Mir.f_b3, ↓Mir.fo_b3, ↓Mir.p_b_own4, ↓Mir.p_b_sh4, ↓Mir.f_b4, ↓Mir.fo_b4, ↓Mir.p_b_own5, ↓Mir.p_b_sh5, ↓Mir.f_b5, ↓Mir.fo_b5, ↓Mir.p_b_own6, ↓Mir.p_b_sh6, ↓Mir.f_b6, ↓Mir.fo_b6, ↓Mir.p_b_own7, ↓Mir.p_b_sh7, ↓Mir.f_b7, ↓Mir.fo_b7, ↓Mir.p_b_own8, ↓Mir.p_b_sh8, ↓Mir.f_b8, ↓Mir.fo_b8, ↓Mir.p_b_own9, ↓Mir.p_b_sh9, ↓Mir.f_b9, ↓Mir.fo_b9, ↓Mir.p_b_own10, ↓Mir.p_b_sh10, ↓Mir.f_b10, ↓Mir.fo_b10, ↓Mir.p_b_own11, ↓Mir.p_b_sh11, ↓Mir.f_b11, ↓Mir.fo_b11, ↓Mir.p_b_own12, ↓Mir.p_b_sh12, ↓Mir.f_b12, ↓Mir.fo_b12, ↓Mir.p_b_own13, ↓Mir.p_b_sh13, ↓Mir.f_b13, ↓Mir.fo_b13, ↓Mir.p_b_own14, ↓Mir.p_b_sh14, ↓Mir.f_b14, ↓Mir.fo_b14, ↓Mir.p_b_own15, ↓Mir.p_b_sh15, ↓Mir.f_b15, ↓Mir.fo_b15, ↓Mir.p_b_own16, ↓Mir.p_b_sh16, ↓Mir.f_b16, ↓Mir.fo_b16, ↓Mir.p_b_own17, ↓Mir.p_b_sh17, ↓Mir.f_b17, ↓Mir.fo_b17, ↓Mir.p_b_own18, ↓Mir.p_b_sh18, ↓Mir.f_b18, ↓Mir.fo_b18, ↓Mir.p_b_own19, ↓Mir.p_b_sh19, ↓Mir.f_b19, ↓Mir.fo_b19, ↓Mir.p_b_own20, ↓Mir.p_b_sh20, ↓Mir.f_b20, ↓Mir.fo_b20, ↓Mir.p_b_own21, ↓Mir.p_b_sh21, ↓Mir.f_b21, ↓Mir.fo_b21, ↓Mir.p_b_own22, ↓Mir.p_b_sh22, ↓Mir.f_b22, ↓Mir.fo_b22, ↓Mir.p_b_own23, ↓Mir.p_b_sh23, ↓Mir.f_b23, ↓Mir.fo_b23, ↓Mir.p_b_own24, ↓Mir.p_b_sh24, ↓Mir.f_b24, ↓Mir.fo_b24, ↓Mir.p_b_own25, ↓Mir.p_b_sh25, ↓Mir.f_b25, ↓Mir.fo_b25, ↓Mir.pv_sh, ↓Mir.pv_own, ↓Mir.bt_name0, ↓Mir.sa_0, ↓Mir.bt_name1, ↓Mir.sa_1, ↓Mir.bt_name2, ↓Mir.sa_2, ↓Mir.bt_name3, ↓Mir.sa_3, ↓Mir.bt_name4, ↓Mir.sa_4, ↓Mir.bt_name5, ↓Mir.sa_5, ↓Mir.bt_name6, ↓Mir.sa_6, ↓Mir.bt_name7, ↓Mir.sa_7, ↓Mir.bt_name8, ↓Mir.sa_8, ↓Mir.bt_name9, ↓Mir.sa_9, ↓Mir.bt_name10, ↓Mir.sa_10, ↓Mir.bt_name11, ↓Mir.sa_11, ↓Mir.bt_name12, ↓Mir.sa_12, ↓Mir.bt_name13, ↓Mir.sa_13, ↓Mir.bt_name14, ↓Mir.sa_14, ↓Mir.bt_name15, ↓Mir.sa_15, ↓Mir.bt_name16, ↓Mir.sa_16, ↓Mir.bt_name17, ↓Mir.sa_17, ↓Mir.bt_name18, ↓Mir.sa_18, ↓Mir.bt_name19, ↓Mir.sa_19, ↓Mir.bt_name20, ↓Mir.sa_20, ↓Mir.bt_name21, ↓Mir.sa_21, ↓Mir.bt_name22, ↓Mir.sa_22, ↓Mir.bt_name23, ↓Mir.sa_23, ↓Mir.bt_name24, ↓Mir.sa_24, ↓Mir.bt_name25, ↓Mir.sa_25, ↓Mir.sa_end, ↓Mir.bt_tup, ↓Mir.b_Add, ↓Mir.b_Sub, ↓Mir.b_BitAnd, ↓Mir.b_BitOr, ↓Mir.b_BitXor, ↓Mir.b_Mult, ↓Mir.b_Mod, ↓Mir.b_FloorDiv, ↓Mir.b_Pow, ↓Mir.b_LShift, ↓Mir.b_RShift, ↓Mir.b_Add_str, ↓Mir.b_Add_lst, ↓Mir.b_Add_tup, ↓Mir.c_Lt, ↓Mir.c_LtE, ↓Mir.c_Gt, ↓Mir.c_GtE, ↓Mir.c_Eq, ↓Mir.c_NotEq, ↓Mir.c_Eq_str, ↓Mir.c_NotEq_str, ↓Mir.c_Eq_bl, ↓Mir.c_NotEq_bl, ↓Mir.c_Eq_int_str, ↓Mir.c_NotEq_int_str, ↓Mir.c_Eq_str_int, ↓Mir.c_NotEq_str_int, ↓Mir.c_Eq_bl_str, ↓Mir.c_NotEq_bl_str, ↓Mir.c_Eq_str_bl, ↓Mir.c_NotEq_str_bl, ↓Mir.c_Eq_int_non, ↓Mir.c_NotEq_int_non, ↓Mir.c_Eq_str_non, ↓Mir.c_NotEq_str_non, ↓Mir.c_Eq_bl_non, ↓Mir.c_NotEq_bl_non, ↓Mir.c_Is_int, ↓Mir.c_IsNot_int, ↓Mir.c_Is_str, ↓Mir.c_IsNot_str, ↓Mir.c_Is_bl, ↓Mir.c_IsNot_bl, ↓Mir.c_Is_tup, ↓Mir.c_IsNot_tup, ↓Mir.c_Is_lst, ↓Mir.c_IsNot_lst, ↓Mir.c_Is_non, ↓Mir.c_IsNot_non, ↓Mir.c_In, ↓Mir.c_NotIn, ↓Mir.tr_bl, ↓Mir.tr_int, ↓Mir.tr_lst, ↓Mir.tr_tup, ↓Mir.tr_non, ↓Mir.x_lst, ↓Mir.x_tup, ↓Mir.at_0, ↓Mir.at_1, ↓Mir.at_2, ↓Mir.at_3, ↓Mir.at_4, ↓Mir.at_5, ↓Mir.at_6, ↓Mir.at_7, ↓Mir.sl_lst, ↓Mir.sl_tup, ↓Mir.bl_len_lst, ↓Mir.bl_len_tup, ↓Mir.bl_abs, ↓Mir.bl_max, ↓Mir.bl_min, ↓Mir.bl_int_int, ↓Mir.bl_int_bl, ↓Mir.bl_list_lst, ↓Mir.bl_list_tup, ↓Mir.bl_tuple_lst, ↓Mir.bl_tuple_tup, ↓Mir.bl_sum, ↓Mir.bl_all, ↓Mir.bl_any, ↓Mir.bl_sorted, ↓Mir.as_ints, ↓Mir.as_bls, ↓Mir.as_strs, ↓Mir.is_non_tuple, ↓Mir.is_non_list, ↓Mir.is_non_bool, ↓Mir.is_non_int, ↓Mir.is_non_str, ↓Mir.is_bl_tuple, ↓Mir.is_bl_list, ↓Mir.is_bl_bool, ↓Mir.is_bl_int, ↓Mir.is_bl_str, ↓Mir.is_int_tuple, ↓Mir.is_int_list, ↓Mir.is_int_bool, ↓Mir.is_int_int, ↓Mir.is_int_str, ↓Mir.is_str_tuple, ↓Mir.is_str_list, ↓Mir.is_str_bool, ↓Mir.is_str_int, ↓Mir.is_str_str, ↓Mir.is_lst_tuple, ↓Mir.is_lst_list, ↓Mir.is_lst_bool, ↓Mir.is_lst_int, ↓Mir.is_lst_str, ↓Mir.is_tup_tuple, ↓Mir.is_tup_list, ↓Mir.is_tup_bool, ↓Mir.is_tup_int, ↓Mir.is_tup_str, ↓Mir.it_lst, ↓Mir.it_tup, ↓Mir.z_lst, ↓Mir.z_tup, ↓Mir.s_nil, ↓Mir.s_set, ↓Mir.s_expr, ↓Mir.s_ret, ↓Mir.s_retN, ↓Mir.s_pass, ↓Mir.s_brk, ↓Mir.ifS_t, ↓Mir.ifS_f, ↓Mir.s_if, ↓Mir.s_for, ↓Mir.s_while, ↓Mir.s_app0, ↓Mir.appE_0, ↓Mir.s_ext0, ↓Mir.extE_0, ↓Mir.setE_0, ↓Mir.s_app1, ↓Mir.appE_1, ↓Mir.s_ext1, ↓Mir.extE_1, ↓Mir.setE_1, ↓Mir.s_app2, ↓Mir.appE_2, ↓Mir.s_ext2, ↓Mir.extE_2, ↓Mir.setE_2, ↓Mir.s_app3, ↓Mir.appE_3, ↓Mir.s_ext3, ↓Mir.extE_3, ↓Mir.setE_3, ↓Mir.s_app4, ↓Mir.appE_4, ↓Mir.s_ext4, ↓Mir.extE_4, ↓Mir.setE_4, ↓Mir.s_app5, ↓Mir.appE_5, ↓Mir.s_ext5, ↓Mir.extE_5, ↓Mir.setE_5, ↓Mir.s_app6, ↓Mir.appE_6, ↓Mir.s_ext6, ↓Mir.extE_6, ↓Mir.setE_6, ↓Mir.s_app7, ↓Mir.appE_7, ↓Mir.s_ext7, ↓Mir.extE_7, ↓Mir.setE_7, ↓Mir.s_app8, ↓Mir.appE_8, ↓Mir.s_ext8, ↓Mir.extE_8, ↓Mir.setE_8, ↓Mir.s_app9, ↓Mir.appE_9, ↓Mir.s_ext9, ↓Mir.extE_9, ↓Mir.setE_9, ↓Mir.s_app10, ↓Mir.appE_10, ↓Mir.s_ext10, ↓Mir.extE_10, ↓Mir.setE_10, ↓Mir.s_app11, ↓Mir.appE_11, ↓Mir.s_ext11, ↓Mir.extE_11, ↓Mir.setE_11, ↓Mir.s_app12, ↓Mir.appE_12, ↓Mir.s_ext12, ↓Mir.extE_12, ↓Mir.setE_12, ↓Mir.s_app13, ↓Mir.appE_13, ↓Mir.s_ext13, ↓Mir.extE_13, ↓Mir.setE_13, ↓Mir.s_app14, ↓Mir.appE_14, ↓Mir.s_ext14, ↓Mir.extE_14, ↓Mir.setE_14, ↓Mir.s_app15, ↓Mir.appE_15, ↓Mir.s_ext15, ↓Mir.extE_15, ↓Mir.setE_15, ↓Mir.s_app16, ↓Mir.appE_16, ↓Mir.s_ext16, ↓Mir.extE_16, ↓Mir.setE_16, ↓Mir.s_app17, ↓Mir.appE_17, ↓Mir.s_ext17, ↓Mir.extE_17, ↓Mir.setE_17, ↓Mir.s_app18, ↓Mir.appE_18, ↓Mir.s_ext18, ↓Mir.extE_18, ↓Mir.setE_18, ↓Mir.s_app19, ↓Mir.appE_19, ↓Mir.s_ext19, ↓Mir.extE_19, ↓Mir.setE_19, ↓Mir.s_app20, ↓Mir.appE_20, ↓Mir.s_ext20, ↓Mir.extE_20, ↓Mir.setE_20, ↓Mir.s_app21, ↓Mir.appE_21, ↓Mir.s_ext21, ↓Mir.extE_21, ↓Mir.setE_21, ↓Mir.s_app22, ↓Mir.appE_22, ↓Mir.s_ext22, ↓Mir.extE_22, ↓Mir.setE_22, ↓Mir.s_app23, ↓Mir.appE_23, ↓Mir.s_ext23, ↓Mir.extE_23, ↓Mir.setE_23, ↓Mir.s_app24, ↓Mir.appE_24, ↓Mir.s_ext24, ↓Mir.extE_24, ↓Mir.setE_24, ↓Mir.s_app25, ↓Mir.appE_25, ↓Mir.s_ext25, ↓Mir.extE_25, ↓Mir.setE_25, ↓Mir.ifS_not, ↓Mir.ifS_pos, ↓Mir.ifS_neg, ↓Mir.ifB_not, ↓Mir.ifB_pos, ↓Mir.ifB_neg, ↓Mir.turnC_eq, ↓Mir.shNs_nil, ↓Mir.shNs_cons, ↓Mir.shN1_ok, Mir.shN1_none, Mir.shN1_sh, Mir.wipe_nil, Mir.wipe_cons, Mir.back_nil, Mir.back_cons, List.set_cons_zero, List.set_cons_succ, List.getD_cons_zero, List.getD_cons_succ, List.map_cons, List.map_nil, ↓Mir.limK_le, ↓Mir.inRK_ok, ↓Mir.okK_ok, ↓Mir.appK_ok, ↓Mir.extK_ok, ↓Mir.finK_ret, ↓Mir.finK_next, ↓Mir.finK_for, ↓Mir.finK_while, ↓Mir.finK_comp, ↓Mir.finK_ifB, ↓Mir.finK_ifS, Mir.app_nil, Mir.app_cons, Mir.flK_next, Mir.flK_ret, Mir.flK_brk, Option.bind_none, decide_true, decide_false, Bool.not_true, Bool.not_false, Mir.pv_sh, Mir.pv_own, List.cons_append, List.nil_append, Mir.okK_ok, Int.reducePow, Int.reduceToNat, Int.reduceMul, Int.reduceAdd, Int.reduceSub, Int.reduceNeg, Nat.reducePow, Nat.reduceMul, Nat.reduceAdd, Nat.reduceSub, Int.one_mul, Int.zero_add, Int.zero_mul, ↓Mir.atI_nat, Int.toNat_natCast])
theorem mixed_k (ns : List Int) (k : Int) {n : Nat} {γ : Type} {c : Sl → Option γ} (hn : 1 ≤ n) (h0 : 0 ≤ k) (h1 : k < 1000000) : (fns P n 8 [.lst (ns.map PV.int), .int k]).bind c = c (.sh (.int (mx ns k))) := by
  obtain ⟨n, rfl⟩ : ∃ j, n = j + 1 := ⟨n - 1, by omega⟩
  have e : fns P (n + 1) 8 [.lst (ns.map PV.int), .int k] = some (.sh (.int (mx ns k))) := by
    rw [r8, b8]
    unfold mx mv mcell
    have f0 : ∀ x : Int, 0 ≤ x.fmod 65521 := fun x => Int.fmod_nonneg_of_pos _ (by decide)
    have f1 : ∀ x : Int, x.fmod 65521 < 65521 := fun x => Int.fmod_lt_of_pos _ (by decide)
    by_cases q : 0 < ns.length
    · have q' : (0 : Int) < (ns.length : Int) := by omega
      have u0 := Int.fmod_nonneg_of_pos (k) q'
      have u1 := Int.fmod_lt_of_pos (k) q'
      rw [if_pos q]
      have g0 := f0 ((ns.getD (k.fmod ns.length).toNat 0).fmod 1000003 * 48271 + k * k * 7919 + 1)
      have g1 := f1 ((ns.getD (k.fmod ns.length).toNat 0).fmod 1000003 * 48271 + k * k * 7919 + 1)
      walk_at "mxm"
    · rw [if_neg q]
      have g0 := f0 ((0 : Int).fmod 1000003 * 48271 + k * k * 7919 + 1)
      have g1 := f1 ((0 : Int).fmod 1000003 * 48271 + k * k * 7919 + 1)
      walk_at "mxm"
  rw [e]; rfl
/-- a number -/
def nm (ns : List Int) (k : Int) : Int := if (mx ns k).fmod 3 = 0 then (mx ns (k + 1)).fmod 5 - 2 else if (mx ns k).fmod 17 = 1 then (if (mx ns (k + 1)).fmod 2 = 0 then 1000000000 else -1000000000) else (mx ns k * 65519 + mx ns (k + 1)).fmod 2000000001 - 1000000000
local macro_rules | `(tactic| walk_at "nm") => `(tactic| simp (maxSteps := 4000000) (disch := first | omega | assumption | ((try simp only [List.length_cons, List.length_nil, List.length_append, List.length_map, List.length_range]); omega) | decide) only [↓mixed_k, ↓Mir.atI_two, ↓Mir.k_non, ↓Mir.k_bl, ↓Mir.k_int, ↓Mir.k_str, ↓Mir.k_glob, ↓Mir.k_var_sh0, ↓Mir.k_var_own0, ↓Mir.k_var_sh1, ↓Mir.k_var_own1, ↓Mir.k_var_sh2, ↓Mir.k_var_own2, ↓Mir.k_var_sh3, ↓Mir.k_var_own3, ↓Mir.k_var_sh4, ↓Mir.k_var_own4, ↓Mir.k_var_sh5, ↓Mir.k_var_own5, ↓Mir.k_var_sh6, ↓Mir.k_var_own6, ↓Mir.k_var_sh7, ↓Mir.k_var_own7, ↓Mir.k_var_sh8, ↓Mir.k_var_own8, ↓Mir.k_var_sh9, ↓Mir.k_var_own9, ↓Mir.k_var_sh10, ↓Mir.k_var_own10, ↓Mir.k_var_sh11, ↓Mir.k_var_own11, ↓Mir.k_var_sh12, ↓Mir.k_var_own12, ↓Mir.k_var_sh13, ↓Mir.k_var_own13, ↓Mir.k_var_sh14, ↓Mir.k_var_own14, ↓Mir.k_var_sh15, ↓Mir.k_var_own15, ↓Mir.k_var_sh16, ↓Mir.k_var_own16, ↓Mir.k_var_sh17, ↓Mir.k_var_own17, ↓Mir.k_var_sh18, ↓Mir.k_var_own18, ↓Mir.k_var_sh19, ↓Mir.k_var_own19, ↓Mir.k_var_sh20, ↓Mir.k_var_own20, ↓Mir.k_var_sh21, ↓Mir.k_var_own21, ↓Mir.k_var_sh22, ↓Mir.k_var_own22, ↓Mir.k_var_sh23, ↓Mir.k_var_own23, ↓Mir.k_var_sh24, ↓Mir.k_var_own24, ↓Mir.k_var_sh25, ↓Mir.k_var_own25, ↓Mir.k_bin, ↓Mir.k_cmp, ↓Mir.ifB_t, ↓Mir.ifB_f, ↓Mir.k_chain, ↓Mir.boolK_bl, ↓Mir.intK_int, ↓Mir.k_and, ↓Mir.k_or, ↓Mir.k_not, ↓Mir.k_neg, ↓Mir.k_inv, ↓Mir.k_ife, ↓Mir.k_ix, ↓Mir.k_slc, ↓Mir.k_tup, ↓Mir.k_lst, ↓Mir.k_call, ↓Mir.callK_1, ↓Mir.callK_2, ↓Mir.callK_3, ↓Mir.callK_4, ↓Mir.callK_5, ↓Mir.callK_6, ↓Mir.callK_7, ↓Mir.callK_8, ↓Mir.callK_Int, ↓Mir.callK_Bool, ↓Mir.callK_Str, ↓Mir.callK_non, ↓Mir.k_blt, ↓Mir.k_isi, ↓Mir.k_meth, ↓Mir.k_comp, ↓Mir.k_no, ↓Mir.k_some, ↓Mir.k_yes, ↓Mir.k_on, ↓Mir.k_nil, ↓Mir.k_cons, ↓Mir.t_val, ↓Mir.t_cmp, ↓Mir.t_chain, ↓Mir.t_and, ↓Mir.t_or, ↓Mir.t_not, ↓Mir.i_val, ↓Mir.i_range1, ↓Mir.i_range2, ↓Mir.lstK_lst, ↓Mir.i_enum, ↓Mir.seqK_lst, ↓Mir.seqK_tup, ↓Mir.i_rev, ↓Mir.i_zip, ↓Mir.p_sh, ↓Mir.p_own, ↓Mir.ps_nil, ↓Mir.ps_cons, ↓Mir.f_sh, ↓Mir.f_own, ↓Mir.fs_nil, ↓Mir.fs_cons, ↓Mir.fo_t, ↓Mir.p_b_own0, ↓Mir.p_b_sh0, ↓Mir.f_b0, ↓Mir.fo_b0, ↓Mir.p_b_own1, ↓Mir.p_b_sh1, ↓Mir.f_b1, ↓Mir.fo_b1, ↓Mir.p_b_own2, ↓Mir.p_b_sh2, ↓Mir.f_b2, ↓Mir.fo_b2, ↓Mir.p_b_own3, ↓Mir.p_b_sh3, ↓Mir.f_b3, ↓Mir.fo_b3, ↓Mir.p_b_own4, ↓Mir.p_b_sh4, ↓Mir.f_b4, ↓Mir.fo_b4, ↓Mir.p_b_own5, ↓Mir.p_b_sh5, ↓Mir.f_b5, ↓Mir.fo_b5, ↓Mir.p_b_own6, ↓Mir.p_b_sh6, ↓Mir.f_b6, ↓Mir.fo_b6, ↓Mir.p_b_own7, ↓Mir.p_b_sh7, ↓Mir.f_b7, ↓Mir.fo_b7, ↓Mir.p_b_own8, ↓Mir.p_b_sh8, ↓Mir.f_b8, ↓Mir.fo_b8, ↓Mir.p_b_own9, ↓Mir.p_b_sh9, ↓Mir.f_b9, ↓Mir.fo_b9, ↓Mir.p_b_own10, ↓Mir.p_b_sh10, ↓Mir.f_b10, ↓Mir.fo_b10, ↓Mir.p_b_own11, ↓Mir.p_b_sh11, ↓Mir.f_b11, ↓Mir.fo_b11, ↓Mir.p_b_own12, ↓Mir.p_b_sh12, ↓Mir.f_b12, ↓Mir.fo_b12, ↓Mir.p_b_own13, ↓Mir.p_b_sh13, ↓Mir.f_b13, ↓Mir.fo_b13, ↓Mir.p_b_own14, ↓Mir.p_b_sh14, ↓Mir.f_b14, ↓Mir.fo_b14, ↓Mir.p_b_own15, ↓Mir.p_b_sh15, ↓Mir.f_b15, ↓Mir.fo_b15, ↓Mir.p_b_own16, ↓Mir.p_b_sh16, ↓Mir.f_b16, ↓Mir.fo_b16, ↓Mir.p_b_own17, ↓Mir.p_b_sh17, ↓Mir.f_b17, ↓Mir.fo_b17, ↓Mir.p_b_own18, ↓Mir.p_b_sh18, ↓Mir.f_b18, ↓Mir.fo_b18, ↓Mir.p_b_own19, ↓Mir.p_b_sh19, ↓Mir.f_b19, ↓Mir.fo_b19, ↓Mir.p_b_own20, ↓Mir.p_b_sh20, ↓Mir.f_b20, ↓Mir.fo_b20, ↓Mir.p_b_own21, ↓Mir.p_b_sh21, ↓Mir.f_b21, ↓Mir.fo_b21, ↓Mir.p_b_own22, ↓Mir.p_b_sh22, ↓Mir.f_b22, ↓Mir.fo_b22, ↓Mir.p_b_own23, ↓Mir.p_b_sh23, ↓Mir.f_b23, ↓Mir.fo_b23, ↓Mir.p_b_own24, ↓Mir.p_b_sh24, ↓Mir.f_b24, ↓Mir.fo_b24, ↓Mir.p_b_own25, ↓Mir.p_b_sh25, ↓Mir.f_b25, ↓Mir.fo_b25, ↓Mir.pv_sh, ↓Mir.pv_own, ↓Mir.bt_name0, ↓Mir.sa_0, ↓Mir.bt_name1, ↓Mir.sa_1, ↓Mir.bt_name2, ↓Mir.sa_2, ↓Mir.bt_name3, ↓Mir.sa_3, ↓Mir.bt_name4, ↓Mir.sa_4, ↓Mir.bt_name5, ↓Mir.sa_5, ↓Mir.bt_name6, ↓Mir.sa_6, ↓Mir.bt_name7, ↓Mir.sa_7, ↓Mir.bt_name8, ↓Mir.sa_8, ↓Mir.bt_name9, ↓Mir.sa_9, ↓Mir.bt_name10, ↓Mir.sa_10, ↓Mir.bt_name11, ↓Mir.sa_11, ↓Mir.bt_name12, ↓Mir.sa_12, ↓Mir.bt_name13, ↓Mir.sa_13, ↓Mir.bt_name14, ↓Mir.sa_14, ↓Mir.bt_name15, ↓Mir.sa_15, ↓Mir.bt_name16, ↓Mir.sa_16, ↓Mir.bt_name17, ↓Mir.sa_17, ↓Mir.bt_name18, ↓Mir.sa_18, ↓Mir.bt_name19, ↓Mir.sa_19, ↓Mir.bt_name20, ↓Mir.sa_20, ↓Mir.bt_name21, ↓Mir.sa_21, ↓Mir.bt_name22, ↓Mir.sa_22, ↓Mir.bt_name23, ↓Mir.sa_23, ↓Mir.bt_name24, ↓Mir.sa_24, ↓Mir.bt_name25, ↓Mir.sa_25, ↓Mir.sa_end, ↓Mir.bt_tup, ↓Mir.b_Add, ↓Mir.b_Sub, ↓Mir.b_BitAnd, ↓Mir.b_BitOr, ↓Mir.b_BitXor, ↓Mir.b_Mult, ↓Mir.b_Mod, ↓Mir.b_FloorDiv, ↓Mir.b_Pow, ↓Mir.b_LShift, ↓Mir.b_RShift, ↓Mir.b_Add_str, ↓Mir.b_Add_lst, ↓Mir.b_Add_tup, ↓Mir.c_Lt, ↓Mir.c_LtE, ↓Mir.c_Gt, ↓Mir.c_GtE, ↓Mir.c_Eq, ↓Mir.c_NotEq, ↓Mir.c_Eq_str, ↓Mir.c_NotEq_str, ↓Mir.c_Eq_bl, ↓Mir.c_NotEq_bl, ↓Mir.c_Eq_int_str, ↓Mir.c_NotEq_int_str, ↓Mir.c_Eq_str_int, ↓Mir.c_NotEq_str_int, ↓Mir.c_Eq_bl_str, ↓Mir.c_NotEq_bl_str, ↓Mir.c_Eq_str_bl, ↓Mir.c_NotEq_str_bl, ↓Mir.c_Eq_int_non, ↓Mir.c_NotEq_int_non, ↓Mir.c_Eq_str_non, ↓Mir.c_NotEq_str_non, ↓Mir.c_Eq_bl_non, ↓Mir.c_NotEq_bl_non, ↓Mir.c_Is_int, ↓Mir.c_IsNot_int, ↓Mir.c_Is_str, ↓Mir.c_IsNot_str, ↓Mir.c_Is_bl, ↓Mir.c_IsNot_bl, ↓Mir.c_Is_tup, ↓Mir.c_IsNot_tup, ↓Mir.c_Is_lst, ↓Mir.c_IsNot_lst, ↓Mir.c_Is_non, ↓Mir.c_IsNot_non, ↓Mir.c_In, ↓Mir.c_NotIn, ↓Mir.tr_bl, ↓Mir.tr_int, ↓Mir.tr_lst, ↓Mir.tr_tup, ↓Mir.tr_non, ↓Mir.x_lst, ↓Mir.x_tup, ↓Mir.at_0, ↓Mir.at_1, ↓Mir.at_2, ↓Mir.at_3, ↓Mir.at_4, ↓Mir.at_5, ↓Mir.at_6, ↓Mir.at_7, ↓Mir.sl_lst, ↓Mir.sl_tup, ↓Mir.bl_len_lst, ↓Mir.bl_len_tup, ↓Mir.bl_abs, ↓Mir.bl_max, ↓Mir.bl_min, ↓Mir.bl_int_int, ↓Mir.bl_int_bl, ↓Mir.bl_list_lst, ↓Mir.bl_list_tup, ↓Mir.bl_tuple_lst, ↓Mir.bl_tuple_tup, ↓Mir.bl_sum, ↓Mir.bl_all, ↓Mir.bl_any, ↓Mir.bl_sorted, ↓Mir.as_ints, ↓Mir.as_bls, ↓Mir.as_strs, ↓Mir.is_non_tuple, ↓Mir.is_non_list, ↓Mir.is_non_bool, ↓Mir.is_non_int, ↓Mir.is_non_str, ↓Mir.is_bl_tuple, ↓Mir.is_bl_list, ↓Mir.is_bl_bool, ↓Mir.is_bl_int, ↓Mir.is_bl_str, ↓Mir.is_int_tuple, ↓Mir.is_int_list, ↓Mir.is_int_bool, ↓Mir.is_int_int, ↓Mir.is_int_str, ↓Mir.is_str_tuple, ↓Mir.is_str_list, ↓Mir.is_str_bool, ↓Mir.is_str_int, ↓Mir.is_str_str, ↓Mir.is_lst_tuple, ↓Mir.is_lst_list, ↓Mir.is_lst_bool, ↓Mir.is_lst_int, ↓Mir.is_lst_str, ↓Mir.is_tup_tuple, ↓Mir.is_tup_list, ↓Mir.is_tup_bool, ↓Mir.is_tup_int, ↓Mir.is_tup_str, ↓Mir.it_lst, ↓Mir.it_tup, ↓Mir.z_lst, ↓Mir.z_tup, ↓Mir.s_nil, ↓Mir.s_set, ↓Mir.s_expr, ↓Mir.s_ret, ↓Mir.s_retN, ↓Mir.s_pass, ↓Mir.s_brk, ↓Mir.ifS_t, ↓Mir.ifS_f, ↓Mir.s_if, ↓Mir.s_for, ↓Mir.s_while, ↓Mir.s_app0, ↓Mir.appE_0, ↓Mir.s_ext0, ↓Mir.extE_0, ↓Mir.setE_0, ↓Mir.s_app1, ↓Mir.appE_1, ↓Mir.s_ext1, ↓Mir.extE_1, ↓Mir.setE_1, ↓Mir.s_app2, ↓Mir.appE_2, ↓Mir.s_ext2, ↓Mir.extE_2, ↓Mir.setE_2, ↓Mir.s_app3, ↓Mir.appE_3, ↓Mir.s_ext3, ↓Mir.extE_3, ↓Mir.setE_3, ↓Mir.s_app4, ↓Mir.appE_4, ↓Mir.s_ext4, ↓Mir.extE_4, ↓Mir.setE_4, ↓Mir.s_app5, ↓Mir.appE_5, ↓Mir.s_ext5, ↓Mir.extE_5, ↓Mir.setE_5, ↓Mir.s_app6, ↓Mir.appE_6, ↓Mir.s_ext6, ↓Mir.extE_6, ↓Mir.setE_6, ↓Mir.s_app7, ↓Mir.appE_7, ↓Mir.s_ext7, ↓Mir.extE_7, ↓Mir.setE_7, ↓Mir.s_app8, ↓Mir.appE_8, ↓Mir.s_ext8, ↓Mir.extE_8, ↓Mir.setE_8, ↓Mir.s_app9, ↓Mir.appE_9, ↓Mir.s_ext9, ↓Mir.extE_9, ↓Mir.setE_9, ↓Mir.s_app10, ↓Mir.appE_10, ↓Mir.s_ext10, ↓Mir.extE_10, ↓Mir.setE_10, ↓Mir.s_app11, ↓Mir.appE_11, ↓Mir.s_ext11, ↓Mir.extE_11, ↓Mir.setE_11, ↓Mir.s_app12, ↓Mir.appE_12, ↓Mir.s_ext12, ↓Mir.extE_12, ↓Mir.setE_12, ↓Mir.s_app13, ↓Mir.appE_13, ↓Mir.s_ext13, ↓Mir.extE_13, ↓Mir.setE_13, ↓Mir.s_app14, ↓Mir.appE_14, ↓Mir.s_ext14, ↓Mir.extE_14, ↓Mir.setE_14, ↓Mir.s_app15, ↓Mir.appE_15, ↓Mir.s_ext15, ↓Mir.extE_15, ↓Mir.setE_15, ↓Mir.s_app16, ↓Mir.appE_16, ↓Mir.s_ext16, ↓Mir.extE_16, ↓Mir.setE_16, ↓Mir.s_app17, ↓Mir.appE_17, ↓Mir.s_ext17, ↓Mir.extE_17, ↓Mir.setE_17, ↓Mir.s_app18, ↓Mir.appE_18, ↓Mir.s_ext18, ↓Mir.extE_18, ↓Mir.setE_18, ↓Mir.s_app19, ↓Mir.appE_19, ↓Mir.s_ext19, ↓Mir.extE_19, ↓Mir.setE_19, ↓Mir.s_app20, ↓Mir.appE_20, ↓Mir.s_ext20, ↓Mir.extE_20, ↓Mir.setE_20, ↓Mir.s_app21, ↓Mir.appE_21, ↓Mir.s_ext21, ↓Mir.extE_21, ↓Mir.setE_21, ↓Mir.s_app22, ↓Mir.appE_22, ↓Mir.s_ext22, ↓Mir.extE_22, ↓Mir.setE_22, ↓Mir.s_app23, ↓Mir.appE_23, ↓Mir.s_ext23, ↓Mir.extE_23, ↓Mir.setE_23, ↓Mir.s_app24, ↓Mir.appE_24, ↓Mir.s_ext24, ↓Mir.extE_24, ↓Mir.setE_24, ↓Mir.s_app25, ↓Mir.appE_25, ↓Mir.s_ext25, ↓Mir.extE_25, ↓Mir.setE_25, ↓Mir.ifS_not, ↓Mir.ifS_pos, ↓Mir.ifS_neg, ↓Mir.ifB_not, ↓Mir.ifB_pos, ↓Mir.ifB_neg, ↓Mir.turnC_eq, ↓Mir.shNs_nil, ↓Mir.shNs_cons, ↓Mir.shN1_ok, Mir.shN1_none, Mir.shN1_sh, Mir.wipe_nil, Mir.wipe_cons, Mir.back_nil, Mir.back_cons, List.set_cons_zero, List.set_cons_succ, List.getD_cons_zero, List.getD_cons_succ, List.map_cons, List.map_nil, ↓Mir.limK_le, ↓Mir.inRK_ok, ↓Mir.okK_ok, ↓Mir.appK_ok, ↓Mir.extK_ok, ↓Mir.finK_ret, ↓Mir.finK_next, ↓Mir.finK_for, ↓Mir.finK_while, ↓Mir.finK_comp, ↓Mir.finK_ifB, ↓Mir.finK_ifS, Mir.app_nil, Mir.app_cons, Mir.flK_next, Mir.flK_ret, Mir.flK_brk, Option.bind_none, decide_true, decide_false, Bool.not_true, Bool.not_false, Mir.pv_sh, Mir.pv_own, List.cons_append, List.nil_append, Mir.okK_ok, Int.reducePow, Int.reduceToNat, Int.reduceMul, Int.reduceAdd, Int.reduceSub, Int.reduceNeg, Nat.reducePow, Nat.reduceMul, Nat.reduceAdd, Nat.reduceSub, Int.one_mul, Int.zero_add, Int.zero_mul, ↓Mir.atI_nat, Int.toNat_natCast])
theorem nm_k (ns : List Int) (k : Int) {n : Nat} {γ : Type} {c : Sl → Option γ} (hn : 2 ≤ n) (h0 : 0 ≤ k) (h1 : k < 999999) : (fns P n 9 [.lst (ns.map PV.int), .int k]).bind c = c (.sh (.int (nm ns k))) := by
  obtain ⟨n, rfl⟩ : ∃ j, n = j + 1 := ⟨n - 1, by omega⟩
  have e : fns P (n + 1) 9 [.lst (ns.map PV.int), .int k] = some (.sh (.int (nm ns k))) := by
    rw [r9, b9]
    unfold nm
    have a0 := mx_lo ns k
    have a1 := mx_hi ns k
    have u0 := Int.fmod_nonneg_of_pos (mx ns (k + 1)) (b := 2) (by decide)
    have u1 := Int.fmod_lt_of_pos (mx ns (k + 1)) (b := 2) (by decide)
    by_cases q1 : (mx ns k).fmod 3 = 0
    · rw [if_pos q1]; walk_at "nm"
    · by_cases q2 : (mx ns k).fmod 17 = 1
      · rw [if_neg q1, if_pos q2]; walk_at "nm"
      · rw [if_neg q1, if_neg q2]; walk_at "nm"
  rw [e]; rfl
theorem alike_refl : ∀ (d : Nat) (p : PV), okD d p → (∀ b, p ≠ .bl b) → noBl d p → ∀ n, d < n → fns P n 23 [p, p] = some (.sh (.bl true))
  | d, p, hd, hb, hq, 0, hn => by omega
  | d, p, hd, hb, hq, n + 1, hn => by
    rw [r23, b23]
    cases p with
    | non => walk_at "mir"
    | bl b => exact absurd rfl (hb b)
    | int b => walk_at "mir"
    | str b => walk_at "mir"
    | lst xs =>
      match d, hd with
      | 0, hd => exact absurd hd id
      | d + 1, hd =>
      have hx := hd.1
      walk_at "mir"
      rw [comp_map (List.range xs.length) (fun (k : Nat) => PV.int (k : Int)) (fun _ => .bl true) (rangeL_zero _) (fun z hz => ?t) (by rw [List.length_range]; exact hd.1), as_trues', all_trues']
      case t =>
        have hl := List.mem_range.mp hz
        have hm := getD_mem (d := PV.non) hl
        have hz' := alike_refl d (xs.getD z .non) (hd.2 _ hm) (hq _ hm).1 (hq _ hm).2 n (by omega)
        walk_at "mir"
        rw [atI_pv hl, atI_pv hl, hz']
        rfl
      rfl
    | tup xs =>
      match d, hd with
      | 0, hd => exact absurd hd id
      | d + 1, hd =>
      have hx := hd.1
      walk_at "mir"
      rw [comp_map (List.range xs.length) (fun (k : Nat) => PV.int (k : Int)) (fun _ => .bl true) (rangeL_zero _) (fun z hz => ?t) (by rw [List.length_range]; exact hd.1), as_trues', all_trues']
      case t =>
        have hl := List.mem_range.mp hz
        have hm := getD_mem (d := PV.non) hl
        have hz' := alike_refl d (xs.getD z .non) (hd.2 _ hm) (hq _ hm).1 (hq _ hm).2 n (by omega)
        walk_at "mir"
        rw [atI_pv hl, atI_pv hl, hz']
        rfl
      rfl
theorem alike_k (d : Nat) {n : Nat} {p q : PV} {γ : Type} {c : Sl → Option γ} (hn : d < n) (h : p = q) (hp : okD d p) (hb : ∀ b, p ≠ .bl b) (hq : noBl d p) : (fns P n 23 [p, q]).bind c = c (.sh (.bl true)) := by
  subst h; rw [alike_refl d p hp hb hq n hn]; rfl
/-! the drawn program -/
abbrev Bx := Str × List Int
def e0 : Bx := (⟨#[]⟩, [])
abbrev bpv (b : Bx) : PV := .tup [.str b.1, .tup (b.2.map PV.int)]
theorem bx_at {B : List Bx} {i : Int} {γ : Type} {k : PV → Option γ} (h0 : 0 ≤ i) (h : i < B.length) : (atI (B.map fun b => PV.tup [.str b.1, .tup (b.2.map PV.int)]) i).bind k = k (.tup [.str (B.getD i.toNat e0).1, .tup ((B.getD i.toNat e0).2.map PV.int)]) := by
  rw [atI_map (fun b : Bx => PV.tup [.str b.1, .tup (b.2.map PV.int)]) B e0 i h0 h]; rfl
def chr (s : String) (i : Nat) : Str := ⟨#[(Str.ofString s).cps.toList.getD i 0]⟩
theorem chr8 {i : Nat} {γ : Type} {k : PV → Option γ} (h : i < 8) : (ix2 (.str (Str.ofString "abcdefgh")) (.int (i : Int))).bind k = k (.str (chr "abcdefgh" i)) := by
  have : i = 0 ∨ i = 1 ∨ i = 2 ∨ i = 3 ∨ i = 4 ∨ i = 5 ∨ i = 6 ∨ i = 7 := by omega
  rcases this with rfl | rfl | rfl | rfl | rfl | rfl | rfl | rfl <;> rfl
theorem chr6 {i : Nat} {γ : Type} {k : PV → Option γ} (h : i < 6) : (ix2 (.str (Str.ofString "pqrstu")) (.int (i : Int))).bind k = k (.str (chr "pqrstu" i)) := by
  have : i = 0 ∨ i = 1 ∨ i = 2 ∨ i = 3 ∨ i = 4 ∨ i = 5 := by omega
  rcases this with rfl | rfl | rfl | rfl | rfl | rfl <;> rfl
/-- boxes as the law draws them: at most eight, one or two cells each -/
def goodB (B : List Bx) : Prop := B.length ≤ 8 ∧ ∀ b ∈ B, 1 ≤ b.2.length ∧ b.2.length ≤ 2
local macro_rules | `(tactic| walk_at "bx") => `(tactic| simp (maxSteps := 4000000) (disch := first | omega | assumption | ((try simp only [List.length_cons, List.length_nil, List.length_append, List.length_map, List.length_range]); omega) | decide) only [↓mixed_k, ↓nm_k, ↓Mir.atI_two, ↓Mir.atI_three, ↓chr8, ↓Mir.k_non, ↓Mir.k_bl, ↓Mir.k_int, ↓Mir.k_str, ↓Mir.k_glob, ↓Mir.k_var_sh0, ↓Mir.k_var_own0, ↓Mir.k_var_sh1, ↓Mir.k_var_own1, ↓Mir.k_var_sh2, ↓Mir.k_var_own2, ↓Mir.k_var_sh3, ↓Mir.k_var_own3, ↓Mir.k_var_sh4, ↓Mir.k_var_own4, ↓Mir.k_var_sh5, ↓Mir.k_var_own5, ↓Mir.k_var_sh6, ↓Mir.k_var_own6, ↓Mir.k_var_sh7, ↓Mir.k_var_own7, ↓Mir.k_var_sh8, ↓Mir.k_var_own8, ↓Mir.k_var_sh9, ↓Mir.k_var_own9, ↓Mir.k_var_sh10, ↓Mir.k_var_own10, ↓Mir.k_var_sh11, ↓Mir.k_var_own11, ↓Mir.k_var_sh12, ↓Mir.k_var_own12, ↓Mir.k_var_sh13, ↓Mir.k_var_own13, ↓Mir.k_var_sh14, ↓Mir.k_var_own14, ↓Mir.k_var_sh15, ↓Mir.k_var_own15, ↓Mir.k_var_sh16, ↓Mir.k_var_own16, ↓Mir.k_var_sh17, ↓Mir.k_var_own17, ↓Mir.k_var_sh18, ↓Mir.k_var_own18, ↓Mir.k_var_sh19, ↓Mir.k_var_own19, ↓Mir.k_var_sh20, ↓Mir.k_var_own20, ↓Mir.k_var_sh21, ↓Mir.k_var_own21, ↓Mir.k_var_sh22, ↓Mir.k_var_own22, ↓Mir.k_var_sh23, ↓Mir.k_var_own23, ↓Mir.k_var_sh24, ↓Mir.k_var_own24, ↓Mir.k_var_sh25, ↓Mir.k_var_own25, ↓Mir.k_bin, ↓Mir.k_cmp, ↓Mir.ifB_t, ↓Mir.ifB_f, ↓Mir.k_chain, ↓Mir.boolK_bl, ↓Mir.intK_int, ↓Mir.k_and, ↓Mir.k_or, ↓Mir.k_not, ↓Mir.k_neg, ↓Mir.k_inv, ↓Mir.k_ife, ↓Mir.k_ix, ↓Mir.k_slc, ↓Mir.k_tup, ↓Mir.k_lst, ↓Mir.k_call, ↓Mir.callK_1, ↓Mir.callK_2, ↓Mir.callK_3, ↓Mir.callK_4, ↓Mir.callK_5, ↓Mir.callK_6, ↓Mir.callK_7, ↓Mir.callK_8, ↓Mir.callK_Int, ↓Mir.callK_Bool, ↓Mir.callK_Str, ↓Mir.callK_non, ↓Mir.k_blt, ↓Mir.k_isi, ↓Mir.k_meth, ↓Mir.k_comp, ↓Mir.k_no, ↓Mir.k_some, ↓Mir.k_yes, ↓Mir.k_on, ↓Mir.k_nil, ↓Mir.k_cons, ↓Mir.t_val, ↓Mir.t_cmp, ↓Mir.t_chain, ↓Mir.t_and, ↓Mir.t_or, ↓Mir.t_not, ↓Mir.i_val, ↓Mir.i_range1, ↓Mir.i_range2, ↓Mir.lstK_lst, ↓Mir.i_enum, ↓Mir.seqK_lst, ↓Mir.seqK_tup, ↓Mir.i_rev, ↓Mir.i_zip, ↓Mir.p_sh, ↓Mir.p_own, ↓Mir.ps_nil, ↓Mir.ps_cons, ↓Mir.f_sh, ↓Mir.f_own, ↓Mir.fs_nil, ↓Mir.fs_cons, ↓Mir.fo_t, ↓Mir.p_b_own0, ↓Mir.p_b_sh0, ↓Mir.f_b0, ↓Mir.fo_b0, ↓Mir.p_b_own1, ↓Mir.p_b_sh1, ↓Mir.f_b1, ↓Mir.fo_b1, ↓Mir.p_b_own2, ↓Mir.p_b_sh2, ↓Mir.f_b2, ↓Mir.fo_b2, ↓Mir.p_b_own3, ↓Mir.p_b_sh3, ↓Mir.f_b3, ↓Mir.fo_b3, ↓Mir.p_b_own4, ↓Mir.p_b_sh4, ↓Mir.f_b4, ↓Mir.fo_b4, ↓Mir.p_b_own5, ↓Mir.p_b_sh5, ↓Mir.f_b5, ↓Mir.fo_b5, ↓Mir.p_b_own6, ↓Mir.p_b_sh6, ↓Mir.f_b6, ↓Mir.fo_b6, ↓Mir.p_b_own7, ↓Mir.p_b_sh7, ↓Mir.f_b7, ↓Mir.fo_b7, ↓Mir.p_b_own8, ↓Mir.p_b_sh8, ↓Mir.f_b8, ↓Mir.fo_b8, ↓Mir.p_b_own9, ↓Mir.p_b_sh9, ↓Mir.f_b9, ↓Mir.fo_b9, ↓Mir.p_b_own10, ↓Mir.p_b_sh10, ↓Mir.f_b10, ↓Mir.fo_b10, ↓Mir.p_b_own11, ↓Mir.p_b_sh11, ↓Mir.f_b11, ↓Mir.fo_b11, ↓Mir.p_b_own12, ↓Mir.p_b_sh12, ↓Mir.f_b12, ↓Mir.fo_b12, ↓Mir.p_b_own13, ↓Mir.p_b_sh13, ↓Mir.f_b13, ↓Mir.fo_b13, ↓Mir.p_b_own14, ↓Mir.p_b_sh14, ↓Mir.f_b14, ↓Mir.fo_b14, ↓Mir.p_b_own15, ↓Mir.p_b_sh15, ↓Mir.f_b15, ↓Mir.fo_b15, ↓Mir.p_b_own16, ↓Mir.p_b_sh16, ↓Mir.f_b16, ↓Mir.fo_b16, ↓Mir.p_b_own17, ↓Mir.p_b_sh17, ↓Mir.f_b17, ↓Mir.fo_b17, ↓Mir.p_b_own18, ↓Mir.p_b_sh18, ↓Mir.f_b18, ↓Mir.fo_b18, ↓Mir.p_b_own19, ↓Mir.p_b_sh19, ↓Mir.f_b19, ↓Mir.fo_b19, ↓Mir.p_b_own20, ↓Mir.p_b_sh20, ↓Mir.f_b20, ↓Mir.fo_b20, ↓Mir.p_b_own21, ↓Mir.p_b_sh21, ↓Mir.f_b21, ↓Mir.fo_b21, ↓Mir.p_b_own22, ↓Mir.p_b_sh22, ↓Mir.f_b22, ↓Mir.fo_b22, ↓Mir.p_b_own23, ↓Mir.p_b_sh23, ↓Mir.f_b23, ↓Mir.fo_b23, ↓Mir.p_b_own24, ↓Mir.p_b_sh24, ↓Mir.f_b24, ↓Mir.fo_b24, ↓Mir.p_b_own25, ↓Mir.p_b_sh25, ↓Mir.f_b25, ↓Mir.fo_b25, ↓Mir.pv_sh, ↓Mir.pv_own, ↓Mir.bt_name0, ↓Mir.sa_0, ↓Mir.bt_name1, ↓Mir.sa_1, ↓Mir.bt_name2, ↓Mir.sa_2, ↓Mir.bt_name3, ↓Mir.sa_3, ↓Mir.bt_name4, ↓Mir.sa_4, ↓Mir.bt_name5, ↓Mir.sa_5, ↓Mir.bt_name6, ↓Mir.sa_6, ↓Mir.bt_name7, ↓Mir.sa_7, ↓Mir.bt_name8, ↓Mir.sa_8, ↓Mir.bt_name9, ↓Mir.sa_9, ↓Mir.bt_name10, ↓Mir.sa_10, ↓Mir.bt_name11, ↓Mir.sa_11, ↓Mir.bt_name12, ↓Mir.sa_12, ↓Mir.bt_name13, ↓Mir.sa_13, ↓Mir.bt_name14, ↓Mir.sa_14, ↓Mir.bt_name15, ↓Mir.sa_15, ↓Mir.bt_name16, ↓Mir.sa_16, ↓Mir.bt_name17, ↓Mir.sa_17, ↓Mir.bt_name18, ↓Mir.sa_18, ↓Mir.bt_name19, ↓Mir.sa_19, ↓Mir.bt_name20, ↓Mir.sa_20, ↓Mir.bt_name21, ↓Mir.sa_21, ↓Mir.bt_name22, ↓Mir.sa_22, ↓Mir.bt_name23, ↓Mir.sa_23, ↓Mir.bt_name24, ↓Mir.sa_24, ↓Mir.bt_name25, ↓Mir.sa_25, ↓Mir.sa_end, ↓Mir.bt_tup, ↓Mir.b_Add, ↓Mir.b_Sub, ↓Mir.b_BitAnd, ↓Mir.b_BitOr, ↓Mir.b_BitXor, ↓Mir.b_Mult, ↓Mir.b_Mod, ↓Mir.b_FloorDiv, ↓Mir.b_Pow, ↓Mir.b_LShift, ↓Mir.b_RShift, ↓Mir.b_Add_str, ↓Mir.b_Add_lst, ↓Mir.b_Add_tup, ↓Mir.c_Lt, ↓Mir.c_LtE, ↓Mir.c_Gt, ↓Mir.c_GtE, ↓Mir.c_Eq, ↓Mir.c_NotEq, ↓Mir.c_Eq_str, ↓Mir.c_NotEq_str, ↓Mir.c_Eq_bl, ↓Mir.c_NotEq_bl, ↓Mir.c_Eq_int_str, ↓Mir.c_NotEq_int_str, ↓Mir.c_Eq_str_int, ↓Mir.c_NotEq_str_int, ↓Mir.c_Eq_bl_str, ↓Mir.c_NotEq_bl_str, ↓Mir.c_Eq_str_bl, ↓Mir.c_NotEq_str_bl, ↓Mir.c_Eq_int_non, ↓Mir.c_NotEq_int_non, ↓Mir.c_Eq_str_non, ↓Mir.c_NotEq_str_non, ↓Mir.c_Eq_bl_non, ↓Mir.c_NotEq_bl_non, ↓Mir.c_Is_int, ↓Mir.c_IsNot_int, ↓Mir.c_Is_str, ↓Mir.c_IsNot_str, ↓Mir.c_Is_bl, ↓Mir.c_IsNot_bl, ↓Mir.c_Is_tup, ↓Mir.c_IsNot_tup, ↓Mir.c_Is_lst, ↓Mir.c_IsNot_lst, ↓Mir.c_Is_non, ↓Mir.c_IsNot_non, ↓Mir.c_In, ↓Mir.c_NotIn, ↓Mir.tr_bl, ↓Mir.tr_int, ↓Mir.tr_lst, ↓Mir.tr_tup, ↓Mir.tr_non, ↓Mir.x_lst, ↓Mir.x_tup, ↓Mir.at_0, ↓Mir.at_1, ↓Mir.at_2, ↓Mir.at_3, ↓Mir.at_4, ↓Mir.at_5, ↓Mir.at_6, ↓Mir.at_7, ↓Mir.sl_lst, ↓Mir.sl_tup, ↓Mir.bl_len_lst, ↓Mir.bl_len_tup, ↓Mir.bl_abs, ↓Mir.bl_max, ↓Mir.bl_min, ↓Mir.bl_int_int, ↓Mir.bl_int_bl, ↓Mir.bl_list_lst, ↓Mir.bl_list_tup, ↓Mir.bl_tuple_lst, ↓Mir.bl_tuple_tup, ↓Mir.bl_sum, ↓Mir.bl_all, ↓Mir.bl_any, ↓Mir.bl_sorted, ↓Mir.as_ints, ↓Mir.as_bls, ↓Mir.as_strs, ↓Mir.is_non_tuple, ↓Mir.is_non_list, ↓Mir.is_non_bool, ↓Mir.is_non_int, ↓Mir.is_non_str, ↓Mir.is_bl_tuple, ↓Mir.is_bl_list, ↓Mir.is_bl_bool, ↓Mir.is_bl_int, ↓Mir.is_bl_str, ↓Mir.is_int_tuple, ↓Mir.is_int_list, ↓Mir.is_int_bool, ↓Mir.is_int_int, ↓Mir.is_int_str, ↓Mir.is_str_tuple, ↓Mir.is_str_list, ↓Mir.is_str_bool, ↓Mir.is_str_int, ↓Mir.is_str_str, ↓Mir.is_lst_tuple, ↓Mir.is_lst_list, ↓Mir.is_lst_bool, ↓Mir.is_lst_int, ↓Mir.is_lst_str, ↓Mir.is_tup_tuple, ↓Mir.is_tup_list, ↓Mir.is_tup_bool, ↓Mir.is_tup_int, ↓Mir.is_tup_str, ↓Mir.it_lst, ↓Mir.it_tup, ↓Mir.z_lst, ↓Mir.z_tup, ↓Mir.s_nil, ↓Mir.s_set, ↓Mir.s_expr, ↓Mir.s_ret, ↓Mir.s_retN, ↓Mir.s_pass, ↓Mir.s_brk, ↓Mir.ifS_t, ↓Mir.ifS_f, ↓Mir.s_if, ↓Mir.s_for, ↓Mir.s_while, ↓Mir.s_app0, ↓Mir.appE_0, ↓Mir.s_ext0, ↓Mir.extE_0, ↓Mir.setE_0, ↓Mir.s_app1, ↓Mir.appE_1, ↓Mir.s_ext1, ↓Mir.extE_1, ↓Mir.setE_1, ↓Mir.s_app2, ↓Mir.appE_2, ↓Mir.s_ext2, ↓Mir.extE_2, ↓Mir.setE_2, ↓Mir.s_app3, ↓Mir.appE_3, ↓Mir.s_ext3, ↓Mir.extE_3, ↓Mir.setE_3, ↓Mir.s_app4, ↓Mir.appE_4, ↓Mir.s_ext4, ↓Mir.extE_4, ↓Mir.setE_4, ↓Mir.s_app5, ↓Mir.appE_5, ↓Mir.s_ext5, ↓Mir.extE_5, ↓Mir.setE_5, ↓Mir.s_app6, ↓Mir.appE_6, ↓Mir.s_ext6, ↓Mir.extE_6, ↓Mir.setE_6, ↓Mir.s_app7, ↓Mir.appE_7, ↓Mir.s_ext7, ↓Mir.extE_7, ↓Mir.setE_7, ↓Mir.s_app8, ↓Mir.appE_8, ↓Mir.s_ext8, ↓Mir.extE_8, ↓Mir.setE_8, ↓Mir.s_app9, ↓Mir.appE_9, ↓Mir.s_ext9, ↓Mir.extE_9, ↓Mir.setE_9, ↓Mir.s_app10, ↓Mir.appE_10, ↓Mir.s_ext10, ↓Mir.extE_10, ↓Mir.setE_10, ↓Mir.s_app11, ↓Mir.appE_11, ↓Mir.s_ext11, ↓Mir.extE_11, ↓Mir.setE_11, ↓Mir.s_app12, ↓Mir.appE_12, ↓Mir.s_ext12, ↓Mir.extE_12, ↓Mir.setE_12, ↓Mir.s_app13, ↓Mir.appE_13, ↓Mir.s_ext13, ↓Mir.extE_13, ↓Mir.setE_13, ↓Mir.s_app14, ↓Mir.appE_14, ↓Mir.s_ext14, ↓Mir.extE_14, ↓Mir.setE_14, ↓Mir.s_app15, ↓Mir.appE_15, ↓Mir.s_ext15, ↓Mir.extE_15, ↓Mir.setE_15, ↓Mir.s_app16, ↓Mir.appE_16, ↓Mir.s_ext16, ↓Mir.extE_16, ↓Mir.setE_16, ↓Mir.s_app17, ↓Mir.appE_17, ↓Mir.s_ext17, ↓Mir.extE_17, ↓Mir.setE_17, ↓Mir.s_app18, ↓Mir.appE_18, ↓Mir.s_ext18, ↓Mir.extE_18, ↓Mir.setE_18, ↓Mir.s_app19, ↓Mir.appE_19, ↓Mir.s_ext19, ↓Mir.extE_19, ↓Mir.setE_19, ↓Mir.s_app20, ↓Mir.appE_20, ↓Mir.s_ext20, ↓Mir.extE_20, ↓Mir.setE_20, ↓Mir.s_app21, ↓Mir.appE_21, ↓Mir.s_ext21, ↓Mir.extE_21, ↓Mir.setE_21, ↓Mir.s_app22, ↓Mir.appE_22, ↓Mir.s_ext22, ↓Mir.extE_22, ↓Mir.setE_22, ↓Mir.s_app23, ↓Mir.appE_23, ↓Mir.s_ext23, ↓Mir.extE_23, ↓Mir.setE_23, ↓Mir.s_app24, ↓Mir.appE_24, ↓Mir.s_ext24, ↓Mir.extE_24, ↓Mir.setE_24, ↓Mir.s_app25, ↓Mir.appE_25, ↓Mir.s_ext25, ↓Mir.extE_25, ↓Mir.setE_25, ↓Mir.ifS_not, ↓Mir.ifS_pos, ↓Mir.ifS_neg, ↓Mir.ifB_not, ↓Mir.ifB_pos, ↓Mir.ifB_neg, ↓Mir.turnC_eq, ↓Mir.shNs_nil, ↓Mir.shNs_cons, ↓Mir.shN1_ok, Mir.shN1_none, Mir.shN1_sh, Mir.wipe_nil, Mir.wipe_cons, Mir.back_nil, Mir.back_cons, List.set_cons_zero, List.set_cons_succ, List.getD_cons_zero, List.getD_cons_succ, List.map_cons, List.map_nil, ↓Mir.limK_le, ↓Mir.inRK_ok, ↓Mir.okK_ok, ↓Mir.appK_ok, ↓Mir.extK_ok, ↓Mir.finK_ret, ↓Mir.finK_next, ↓Mir.finK_for, ↓Mir.finK_while, ↓Mir.finK_comp, ↓Mir.finK_ifB, ↓Mir.finK_ifS, Mir.app_nil, Mir.app_cons, Mir.flK_next, Mir.flK_ret, Mir.flK_brk, Option.bind_none, decide_true, decide_false, Bool.not_true, Bool.not_false, Mir.pv_sh, Mir.pv_own, List.cons_append, List.nil_append, Mir.okK_ok, Int.reducePow, Int.reduceToNat, Int.reduceMul, Int.reduceAdd, Int.reduceSub, Int.reduceNeg, Nat.reducePow, Nat.reduceMul, Nat.reduceAdd, Nat.reduceSub, Int.one_mul, Int.zero_add, Int.zero_mul, ↓Mir.atI_nat, Int.toNat_natCast])
theorem boxes_ex (ns : List Int) (n : Nat) (hn : 3 ≤ n) : ∃ B, goodB B ∧ fns P n 10 [.lst (ns.map PV.int)] = some (.sh (.tup (B.map fun b => PV.tup [.str b.1, .tup (b.2.map PV.int)]))) := by
  obtain ⟨n, rfl⟩ : ∃ j, n = j + 1 := ⟨n - 1, by omega⟩
  rw [r10, b10]
  have a0 := mx_lo ns 2
  have a1 := mx_hi ns 2
  have b0 := Int.fmod_nonneg_of_pos ((mx ns 2).fdiv 16) (b := 4) (by decide)
  have b1 := Int.fmod_lt_of_pos ((mx ns 2).fdiv 16) (b := 4) (by decide)
  have b2 := Int.fmod_nonneg_of_pos ((mx ns 2).fdiv 16) (b := 5) (by decide)
  have b3 := Int.fmod_lt_of_pos ((mx ns 2).fdiv 16) (b := 5) (by decide)
  have s0 := Int.fmod_nonneg_of_pos (mx ns 3) (b := 2) (by decide)
  have s1 := Int.fmod_lt_of_pos (mx ns 3) (b := 2) (by decide)
  walk_at "bx"
  generalize hm : (if (if decide ((mx ns 2).fmod 8 = 0) = true then (1 : Int) else 0) = 0 then ((mx ns 2).fdiv 16).fmod 4 else 4 + ((mx ns 2).fdiv 16).fmod 5) = m
  have m0 : 0 ≤ m ∧ m ≤ 8 := by rw [← hm]; split <;> omega
  refine for_range_any (fun X : Option Sl => ∃ B : List Bx, goodB B ∧ X = some (.sh (.tup (B.map fun b => PV.tup [.str b.1, .tup (b.2.map PV.int)])))) m.toNat (fun (k : Nat) => .int (k : Int)) (fun i e => ∃ B : List Bx, B.length = i ∧ (∀ b ∈ B, 1 ≤ b.2.length ∧ b.2.length ≤ 2) ∧ ∃ j4 j5 j6 j7, e = [some (.sh (.lst (ns.map PV.int))), some (.sh (.int (1 + (mx ns 3).fmod 2))), some (.sh (.int m)), some (.own (B.map fun b => PV.tup [.str b.1, .tup (b.2.map PV.int)])), j4, j5, j6, j7]) (rangeL_zero _) ⟨[], rfl, (fun b hb => by cases hb), _, _, _, _, rfl⟩ ?_ ?_
  · rintro i e hi ⟨B, hB, hb, j4, j5, j6, j7, rfl⟩
    have hi8 : i < 8 := by omega
    have hl : (B.map fun b => PV.tup [.str b.1, .tup (b.2.map PV.int)]).length < 16777216 := by rw [List.length_map]; omega
    have f3 : (i : Int).fdiv 3 = (i : Int) / 3 := Int.fdiv_eq_ediv_of_nonneg _ (by decide)
    have f4 : 0 ≤ (i : Int).fdiv 3 ∧ (i : Int).fdiv 3 ≤ 2 := by rw [f3]; omega
    have f5 := Int.fmod_nonneg_of_pos (i : Int) (b := 3) (by decide)
    have f6 := Int.fmod_lt_of_pos (i : Int) (b := 3) (by decide)
    have add : ∀ b : Bx, (1 ≤ b.2.length ∧ b.2.length ≤ 2) → ∀ x ∈ B ++ [b], 1 ≤ x.2.length ∧ x.2.length ≤ 2 := fun b h x hx => by
      rcases List.mem_append.mp hx with hx | hx
      · exact hb x hx
      · rw [List.mem_singleton.mp hx]; exact h
    by_cases s2 : 1 + (mx ns 3).fmod 2 = 2
    · by_cases o : (if (i : Int).fmod 3 = 0 then (0 : Int) else if (i : Int).fmod 3 = 1 then 0 else 2) < (mx ns (4 + 5 * (i : Int) + 400 * (i : Int).fdiv 3 + 2)).fmod 5
      · walk_at "bx"
        refine ⟨_, rfl, B ++ [(chr "abcdefgh" i, [nm ns (4 + 5 * (i : Int) + 400 * (i : Int).fdiv 3), nm ns (4 + 5 * (i : Int) + 400 * (i : Int).fdiv 3 + 3)])], by rw [List.length_append, hB]; rfl, add _ ⟨Nat.le_of_ble_eq_true rfl, Nat.le_of_ble_eq_true rfl⟩, ?_⟩
        rw [List.map_append]
        exact ⟨_, _, _, _, rfl⟩
      · walk_at "bx"
        refine ⟨_, rfl, B ++ [(chr "abcdefgh" i, [nm ns (4 + 5 * (i : Int) + 400 * (i : Int).fdiv 3)])], by rw [List.length_append, hB]; rfl, add _ ⟨Nat.le_of_ble_eq_true rfl, Nat.le_of_ble_eq_true rfl⟩, ?_⟩
        rw [List.map_append]
        exact ⟨_, _, _, _, rfl⟩
    · by_cases o : (mx ns (4 + 5 * (i : Int) + 400 * (i : Int).fdiv 3 + 2)).fmod 5 = 0
      · walk_at "bx"
        refine ⟨_, rfl, B ++ [(chr "abcdefgh" i, [nm ns (4 + 5 * (i : Int) + 400 * (i : Int).fdiv 3), nm ns (4 + 5 * (i : Int) + 400 * (i : Int).fdiv 3 + 3)])], by rw [List.length_append, hB]; rfl, add _ ⟨Nat.le_of_ble_eq_true rfl, Nat.le_of_ble_eq_true rfl⟩, ?_⟩
        rw [List.map_append]
        exact ⟨_, _, _, _, rfl⟩
      · walk_at "bx"
        refine ⟨_, rfl, B ++ [(chr "abcdefgh" i, [nm ns (4 + 5 * (i : Int) + 400 * (i : Int).fdiv 3)])], by rw [List.length_append, hB]; rfl, add _ ⟨Nat.le_of_ble_eq_true rfl, Nat.le_of_ble_eq_true rfl⟩, ?_⟩
        rw [List.map_append]
        exact ⟨_, _, _, _, rfl⟩
  · rintro e ⟨B, hB, hb, j4, j5, j6, j7, rfl⟩
    refine ⟨B, ⟨by omega, hb⟩, ?_⟩
    walk_at "bx"
/-- a deed -/
inductive Dd where
  | still (n : Int) | put (x : Nat) (l : List Int) | copy (x y : Nat) | grow (x : Nat) (n : Int) | tick (x : Nat) | is (x y : Nat) (n : Int) | most (x y : Nat) (n : Int) | none (x : Nat) | anew (x y t : Nat)
def Dd.pv : Dd → PV
  | .still n => .tup [.str (Str.ofString "still"), .int n]
  | .put x l => .tup [.str (Str.ofString "put"), .int x, .tup (l.map PV.int)]
  | .copy x y => .tup [.str (Str.ofString "copy"), .int x, .int y]
  | .grow x n => .tup [.str (Str.ofString "grow"), .int x, .int n]
  | .tick x => .tup [.str (Str.ofString "tick"), .int x]
  | .is x y n => .tup [.str (Str.ofString "is"), .int x, .int y, .int n]
  | .most x y n => .tup [.str (Str.ofString "most"), .int x, .int y, .int n]
  | .none x => .tup [.str (Str.ofString "none"), .int x]
  | .anew x y t => .tup [.str (Str.ofString "anew"), .int x, .int y, .int t]
def bz (B : List Bx) (x : Nat) : Nat := (B.getD x e0).2.length
/-- a deed that a program may hold -/
def goodD (B : List Bx) (rest : Int) : Dd → Prop
  | .still n => 1 ≤ n ∧ n ≤ rest
  | .put x l => x < B.length ∧ l.length = bz B x
  | .copy x y => x < B.length ∧ y < B.length ∧ x ≠ y ∧ bz B x = bz B y
  | .grow x _ => x < B.length
  | .tick x => x < B.length ∧ bz B x = 1
  | .is x y _ => x < B.length ∧ y < B.length ∧ bz B x = bz B y
  | .most x y _ => x < B.length ∧ y < B.length ∧ bz B x = bz B y
  | .none x => x < B.length
  | .anew x y t => x < B.length ∧ y < B.length ∧ x ≠ y ∧ bz B x = bz B y ∧ t < B.length ∧ t ≠ x ∧ t ≠ y ∧ bz B t = 1
theorem ifB_nand {γ : Type} {c d : Bool} {a b : Option γ} : ifB c b (ifB d a b) = ifB (!c && d) a b := by cases c <;> cases d <;> rfl
theorem mate_at (M : List Nat) (x : Nat) (i : Int) (h0 : 0 ≤ i) (h1 : i < (M.length : Int) + 1) : ∃ m : Nat, (m ∈ M ∨ m = x) ∧ ∀ {γ : Type} (k : PV → Option γ), (atI (M.map (fun (m : Nat) => PV.int (m : Int)) ++ [PV.int (x : Int)]) i).bind k = k (.int (m : Int)) := by
  have e : M.map (fun (m : Nat) => PV.int (m : Int)) ++ [PV.int (x : Int)] = (M ++ [x]).map fun (m : Nat) => PV.int (m : Int) := by rw [List.map_append]; rfl
  have hl : i.toNat < (M ++ [x]).length := by rw [List.length_append]; simp only [List.length_cons, List.length_nil]; omega
  refine ⟨(M ++ [x]).getD i.toNat 0, ?_, fun k => ?_⟩
  · have := getD_mem (d := 0) hl
    rw [List.mem_append, List.mem_singleton] at this
    exact this
  · rw [e, atI_map _ (M ++ [x]) 0 i h0 (by omega)]; rfl
theorem tally_at (T : List Nat) (i : Int) (h0 : 0 ≤ i) (h1 : i < (T.length : Int)) : ∃ t : Nat, t ∈ T ∧ ∀ {γ : Type} (k : PV → Option γ), (atI (T.map (fun (m : Nat) => PV.int (m : Int))) i).bind k = k (.int (t : Int)) :=
  ⟨T.getD i.toNat 0, getD_mem (by omega), fun k => by rw [atI_map _ T 0 i h0 h1]; rfl⟩
local macro_rules | `(tactic| walk_at "dd") => `(tactic| simp (maxSteps := 4000000) (disch := first | omega | assumption | ((try simp only [List.length_cons, List.length_nil, List.length_append, List.length_map, List.length_range]); omega) | decide) only [↓mixed_k, ↓Mir.atI_int, ↓Mir.atI_twoS, ↓nm_k, ↓bx_at, ↓Mir.k_non, ↓Mir.k_bl, ↓Mir.k_int, ↓Mir.k_str, ↓Mir.k_glob, ↓Mir.k_var_sh0, ↓Mir.k_var_own0, ↓Mir.k_var_sh1, ↓Mir.k_var_own1, ↓Mir.k_var_sh2, ↓Mir.k_var_own2, ↓Mir.k_var_sh3, ↓Mir.k_var_own3, ↓Mir.k_var_sh4, ↓Mir.k_var_own4, ↓Mir.k_var_sh5, ↓Mir.k_var_own5, ↓Mir.k_var_sh6, ↓Mir.k_var_own6, ↓Mir.k_var_sh7, ↓Mir.k_var_own7, ↓Mir.k_var_sh8, ↓Mir.k_var_own8, ↓Mir.k_var_sh9, ↓Mir.k_var_own9, ↓Mir.k_var_sh10, ↓Mir.k_var_own10, ↓Mir.k_var_sh11, ↓Mir.k_var_own11, ↓Mir.k_var_sh12, ↓Mir.k_var_own12, ↓Mir.k_var_sh13, ↓Mir.k_var_own13, ↓Mir.k_var_sh14, ↓Mir.k_var_own14, ↓Mir.k_var_sh15, ↓Mir.k_var_own15, ↓Mir.k_var_sh16, ↓Mir.k_var_own16, ↓Mir.k_var_sh17, ↓Mir.k_var_own17, ↓Mir.k_var_sh18, ↓Mir.k_var_own18, ↓Mir.k_var_sh19, ↓Mir.k_var_own19, ↓Mir.k_var_sh20, ↓Mir.k_var_own20, ↓Mir.k_var_sh21, ↓Mir.k_var_own21, ↓Mir.k_var_sh22, ↓Mir.k_var_own22, ↓Mir.k_var_sh23, ↓Mir.k_var_own23, ↓Mir.k_var_sh24, ↓Mir.k_var_own24, ↓Mir.k_var_sh25, ↓Mir.k_var_own25, ↓Mir.k_bin, ↓Mir.k_cmp, ↓Mir.ifB_t, ↓Mir.ifB_f, ↓Mir.k_chain, ↓Mir.boolK_bl, ↓Mir.intK_int, ↓Mir.k_and, ↓Mir.k_or, ↓Mir.k_not, ↓Mir.k_neg, ↓Mir.k_inv, ↓Mir.k_ife, ↓Mir.k_ix, ↓Mir.k_slc, ↓Mir.k_tup, ↓Mir.k_lst, ↓Mir.k_call, ↓Mir.callK_1, ↓Mir.callK_2, ↓Mir.callK_3, ↓Mir.callK_4, ↓Mir.callK_5, ↓Mir.callK_6, ↓Mir.callK_7, ↓Mir.callK_8, ↓Mir.callK_Int, ↓Mir.callK_Bool, ↓Mir.callK_Str, ↓Mir.callK_non, ↓Mir.k_blt, ↓Mir.k_isi, ↓Mir.k_meth, ↓Mir.k_comp, ↓Mir.k_no, ↓Mir.k_some, ↓Mir.k_yes, ↓Mir.k_on, ↓Mir.k_nil, ↓Mir.k_cons, ↓Mir.t_val, ↓Mir.t_cmp, ↓Mir.t_chain, ↓Mir.t_and, ↓Mir.t_or, ↓Mir.t_not, ↓Mir.i_val, ↓Mir.i_range1, ↓Mir.i_range2, ↓Mir.lstK_lst, ↓Mir.i_enum, ↓Mir.seqK_lst, ↓Mir.seqK_tup, ↓Mir.i_rev, ↓Mir.i_zip, ↓Mir.p_sh, ↓Mir.p_own, ↓Mir.ps_nil, ↓Mir.ps_cons, ↓Mir.f_sh, ↓Mir.f_own, ↓Mir.fs_nil, ↓Mir.fs_cons, ↓Mir.fo_t, ↓Mir.p_b_own0, ↓Mir.p_b_sh0, ↓Mir.f_b0, ↓Mir.fo_b0, ↓Mir.p_b_own1, ↓Mir.p_b_sh1, ↓Mir.f_b1, ↓Mir.fo_b1, ↓Mir.p_b_own2, ↓Mir.p_b_sh2, ↓Mir.f_b2, ↓Mir.fo_b2, ↓Mir.p_b_own3, ↓Mir.p_b_sh3, ↓Mir.f_b3, ↓Mir.fo_b3, ↓Mir.p_b_own4, ↓Mir.p_b_sh4, ↓Mir.f_b4, ↓Mir.fo_b4, ↓Mir.p_b_own5, ↓Mir.p_b_sh5, ↓Mir.f_b5, ↓Mir.fo_b5, ↓Mir.p_b_own6, ↓Mir.p_b_sh6, ↓Mir.f_b6, ↓Mir.fo_b6, ↓Mir.p_b_own7, ↓Mir.p_b_sh7, ↓Mir.f_b7, ↓Mir.fo_b7, ↓Mir.p_b_own8, ↓Mir.p_b_sh8, ↓Mir.f_b8, ↓Mir.fo_b8, ↓Mir.p_b_own9, ↓Mir.p_b_sh9, ↓Mir.f_b9, ↓Mir.fo_b9, ↓Mir.p_b_own10, ↓Mir.p_b_sh10, ↓Mir.f_b10, ↓Mir.fo_b10, ↓Mir.p_b_own11, ↓Mir.p_b_sh11, ↓Mir.f_b11, ↓Mir.fo_b11, ↓Mir.p_b_own12, ↓Mir.p_b_sh12, ↓Mir.f_b12, ↓Mir.fo_b12, ↓Mir.p_b_own13, ↓Mir.p_b_sh13, ↓Mir.f_b13, ↓Mir.fo_b13, ↓Mir.p_b_own14, ↓Mir.p_b_sh14, ↓Mir.f_b14, ↓Mir.fo_b14, ↓Mir.p_b_own15, ↓Mir.p_b_sh15, ↓Mir.f_b15, ↓Mir.fo_b15, ↓Mir.p_b_own16, ↓Mir.p_b_sh16, ↓Mir.f_b16, ↓Mir.fo_b16, ↓Mir.p_b_own17, ↓Mir.p_b_sh17, ↓Mir.f_b17, ↓Mir.fo_b17, ↓Mir.p_b_own18, ↓Mir.p_b_sh18, ↓Mir.f_b18, ↓Mir.fo_b18, ↓Mir.p_b_own19, ↓Mir.p_b_sh19, ↓Mir.f_b19, ↓Mir.fo_b19, ↓Mir.p_b_own20, ↓Mir.p_b_sh20, ↓Mir.f_b20, ↓Mir.fo_b20, ↓Mir.p_b_own21, ↓Mir.p_b_sh21, ↓Mir.f_b21, ↓Mir.fo_b21, ↓Mir.p_b_own22, ↓Mir.p_b_sh22, ↓Mir.f_b22, ↓Mir.fo_b22, ↓Mir.p_b_own23, ↓Mir.p_b_sh23, ↓Mir.f_b23, ↓Mir.fo_b23, ↓Mir.p_b_own24, ↓Mir.p_b_sh24, ↓Mir.f_b24, ↓Mir.fo_b24, ↓Mir.p_b_own25, ↓Mir.p_b_sh25, ↓Mir.f_b25, ↓Mir.fo_b25, ↓Mir.pv_sh, ↓Mir.pv_own, ↓Mir.bt_name0, ↓Mir.sa_0, ↓Mir.bt_name1, ↓Mir.sa_1, ↓Mir.bt_name2, ↓Mir.sa_2, ↓Mir.bt_name3, ↓Mir.sa_3, ↓Mir.bt_name4, ↓Mir.sa_4, ↓Mir.bt_name5, ↓Mir.sa_5, ↓Mir.bt_name6, ↓Mir.sa_6, ↓Mir.bt_name7, ↓Mir.sa_7, ↓Mir.bt_name8, ↓Mir.sa_8, ↓Mir.bt_name9, ↓Mir.sa_9, ↓Mir.bt_name10, ↓Mir.sa_10, ↓Mir.bt_name11, ↓Mir.sa_11, ↓Mir.bt_name12, ↓Mir.sa_12, ↓Mir.bt_name13, ↓Mir.sa_13, ↓Mir.bt_name14, ↓Mir.sa_14, ↓Mir.bt_name15, ↓Mir.sa_15, ↓Mir.bt_name16, ↓Mir.sa_16, ↓Mir.bt_name17, ↓Mir.sa_17, ↓Mir.bt_name18, ↓Mir.sa_18, ↓Mir.bt_name19, ↓Mir.sa_19, ↓Mir.bt_name20, ↓Mir.sa_20, ↓Mir.bt_name21, ↓Mir.sa_21, ↓Mir.bt_name22, ↓Mir.sa_22, ↓Mir.bt_name23, ↓Mir.sa_23, ↓Mir.bt_name24, ↓Mir.sa_24, ↓Mir.bt_name25, ↓Mir.sa_25, ↓Mir.sa_end, ↓Mir.bt_tup, ↓Mir.b_Add, ↓Mir.b_Sub, ↓Mir.b_BitAnd, ↓Mir.b_BitOr, ↓Mir.b_BitXor, ↓Mir.b_Mult, ↓Mir.b_Mod, ↓Mir.b_FloorDiv, ↓Mir.b_Pow, ↓Mir.b_LShift, ↓Mir.b_RShift, ↓Mir.b_Add_str, ↓Mir.b_Add_lst, ↓Mir.b_Add_tup, ↓Mir.c_Lt, ↓Mir.c_LtE, ↓Mir.c_Gt, ↓Mir.c_GtE, ↓Mir.c_Eq, ↓Mir.c_NotEq, ↓Mir.c_Eq_str, ↓Mir.c_NotEq_str, ↓Mir.c_Eq_bl, ↓Mir.c_NotEq_bl, ↓Mir.c_Eq_int_str, ↓Mir.c_NotEq_int_str, ↓Mir.c_Eq_str_int, ↓Mir.c_NotEq_str_int, ↓Mir.c_Eq_bl_str, ↓Mir.c_NotEq_bl_str, ↓Mir.c_Eq_str_bl, ↓Mir.c_NotEq_str_bl, ↓Mir.c_Eq_int_non, ↓Mir.c_NotEq_int_non, ↓Mir.c_Eq_str_non, ↓Mir.c_NotEq_str_non, ↓Mir.c_Eq_bl_non, ↓Mir.c_NotEq_bl_non, ↓Mir.c_Is_int, ↓Mir.c_IsNot_int, ↓Mir.c_Is_str, ↓Mir.c_IsNot_str, ↓Mir.c_Is_bl, ↓Mir.c_IsNot_bl, ↓Mir.c_Is_tup, ↓Mir.c_IsNot_tup, ↓Mir.c_Is_lst, ↓Mir.c_IsNot_lst, ↓Mir.c_Is_non, ↓Mir.c_IsNot_non, ↓Mir.c_In, ↓Mir.c_NotIn, ↓Mir.tr_bl, ↓Mir.tr_int, ↓Mir.tr_lst, ↓Mir.tr_tup, ↓Mir.tr_non, ↓Mir.x_lst, ↓Mir.x_tup, ↓Mir.at_0, ↓Mir.at_1, ↓Mir.at_2, ↓Mir.at_3, ↓Mir.at_4, ↓Mir.at_5, ↓Mir.at_6, ↓Mir.at_7, ↓Mir.sl_lst, ↓Mir.sl_tup, ↓Mir.bl_len_lst, ↓Mir.bl_len_tup, ↓Mir.bl_abs, ↓Mir.bl_max, ↓Mir.bl_min, ↓Mir.bl_int_int, ↓Mir.bl_int_bl, ↓Mir.bl_list_lst, ↓Mir.bl_list_tup, ↓Mir.bl_tuple_lst, ↓Mir.bl_tuple_tup, ↓Mir.bl_sum, ↓Mir.bl_all, ↓Mir.bl_any, ↓Mir.bl_sorted, ↓Mir.as_ints, ↓Mir.as_bls, ↓Mir.as_strs, ↓Mir.is_non_tuple, ↓Mir.is_non_list, ↓Mir.is_non_bool, ↓Mir.is_non_int, ↓Mir.is_non_str, ↓Mir.is_bl_tuple, ↓Mir.is_bl_list, ↓Mir.is_bl_bool, ↓Mir.is_bl_int, ↓Mir.is_bl_str, ↓Mir.is_int_tuple, ↓Mir.is_int_list, ↓Mir.is_int_bool, ↓Mir.is_int_int, ↓Mir.is_int_str, ↓Mir.is_str_tuple, ↓Mir.is_str_list, ↓Mir.is_str_bool, ↓Mir.is_str_int, ↓Mir.is_str_str, ↓Mir.is_lst_tuple, ↓Mir.is_lst_list, ↓Mir.is_lst_bool, ↓Mir.is_lst_int, ↓Mir.is_lst_str, ↓Mir.is_tup_tuple, ↓Mir.is_tup_list, ↓Mir.is_tup_bool, ↓Mir.is_tup_int, ↓Mir.is_tup_str, ↓Mir.it_lst, ↓Mir.it_tup, ↓Mir.z_lst, ↓Mir.z_tup, ↓Mir.s_nil, ↓Mir.s_set, ↓Mir.s_expr, ↓Mir.s_ret, ↓Mir.s_retN, ↓Mir.s_pass, ↓Mir.s_brk, ↓Mir.ifS_t, ↓Mir.ifS_f, ↓Mir.s_if, ↓Mir.s_for, ↓Mir.s_while, ↓Mir.s_app0, ↓Mir.appE_0, ↓Mir.s_ext0, ↓Mir.extE_0, ↓Mir.setE_0, ↓Mir.s_app1, ↓Mir.appE_1, ↓Mir.s_ext1, ↓Mir.extE_1, ↓Mir.setE_1, ↓Mir.s_app2, ↓Mir.appE_2, ↓Mir.s_ext2, ↓Mir.extE_2, ↓Mir.setE_2, ↓Mir.s_app3, ↓Mir.appE_3, ↓Mir.s_ext3, ↓Mir.extE_3, ↓Mir.setE_3, ↓Mir.s_app4, ↓Mir.appE_4, ↓Mir.s_ext4, ↓Mir.extE_4, ↓Mir.setE_4, ↓Mir.s_app5, ↓Mir.appE_5, ↓Mir.s_ext5, ↓Mir.extE_5, ↓Mir.setE_5, ↓Mir.s_app6, ↓Mir.appE_6, ↓Mir.s_ext6, ↓Mir.extE_6, ↓Mir.setE_6, ↓Mir.s_app7, ↓Mir.appE_7, ↓Mir.s_ext7, ↓Mir.extE_7, ↓Mir.setE_7, ↓Mir.s_app8, ↓Mir.appE_8, ↓Mir.s_ext8, ↓Mir.extE_8, ↓Mir.setE_8, ↓Mir.s_app9, ↓Mir.appE_9, ↓Mir.s_ext9, ↓Mir.extE_9, ↓Mir.setE_9, ↓Mir.s_app10, ↓Mir.appE_10, ↓Mir.s_ext10, ↓Mir.extE_10, ↓Mir.setE_10, ↓Mir.s_app11, ↓Mir.appE_11, ↓Mir.s_ext11, ↓Mir.extE_11, ↓Mir.setE_11, ↓Mir.s_app12, ↓Mir.appE_12, ↓Mir.s_ext12, ↓Mir.extE_12, ↓Mir.setE_12, ↓Mir.s_app13, ↓Mir.appE_13, ↓Mir.s_ext13, ↓Mir.extE_13, ↓Mir.setE_13, ↓Mir.s_app14, ↓Mir.appE_14, ↓Mir.s_ext14, ↓Mir.extE_14, ↓Mir.setE_14, ↓Mir.s_app15, ↓Mir.appE_15, ↓Mir.s_ext15, ↓Mir.extE_15, ↓Mir.setE_15, ↓Mir.s_app16, ↓Mir.appE_16, ↓Mir.s_ext16, ↓Mir.extE_16, ↓Mir.setE_16, ↓Mir.s_app17, ↓Mir.appE_17, ↓Mir.s_ext17, ↓Mir.extE_17, ↓Mir.setE_17, ↓Mir.s_app18, ↓Mir.appE_18, ↓Mir.s_ext18, ↓Mir.extE_18, ↓Mir.setE_18, ↓Mir.s_app19, ↓Mir.appE_19, ↓Mir.s_ext19, ↓Mir.extE_19, ↓Mir.setE_19, ↓Mir.s_app20, ↓Mir.appE_20, ↓Mir.s_ext20, ↓Mir.extE_20, ↓Mir.setE_20, ↓Mir.s_app21, ↓Mir.appE_21, ↓Mir.s_ext21, ↓Mir.extE_21, ↓Mir.setE_21, ↓Mir.s_app22, ↓Mir.appE_22, ↓Mir.s_ext22, ↓Mir.extE_22, ↓Mir.setE_22, ↓Mir.s_app23, ↓Mir.appE_23, ↓Mir.s_ext23, ↓Mir.extE_23, ↓Mir.setE_23, ↓Mir.s_app24, ↓Mir.appE_24, ↓Mir.s_ext24, ↓Mir.extE_24, ↓Mir.setE_24, ↓Mir.s_app25, ↓Mir.appE_25, ↓Mir.s_ext25, ↓Mir.extE_25, ↓Mir.setE_25, ↓Mir.ifS_not, ↓Mir.ifS_pos, ↓Mir.ifS_neg, ↓Mir.ifB_not, ↓Mir.ifB_pos, ↓Mir.ifB_neg, ↓Mir.turnC_eq, ↓Mir.shNs_nil, ↓Mir.shNs_cons, ↓Mir.shN1_ok, Mir.shN1_none, Mir.shN1_sh, Mir.wipe_nil, Mir.wipe_cons, Mir.back_nil, Mir.back_cons, List.set_cons_zero, List.set_cons_succ, List.getD_cons_zero, List.getD_cons_succ, List.map_cons, List.map_nil, ↓Mir.limK_le, ↓Mir.inRK_ok, ↓Mir.okK_ok, ↓Mir.appK_ok, ↓Mir.extK_ok, ↓Mir.finK_ret, ↓Mir.finK_next, ↓Mir.finK_for, ↓Mir.finK_while, ↓Mir.finK_comp, ↓Mir.finK_ifB, ↓Mir.finK_ifS, Mir.app_nil, Mir.app_cons, Mir.flK_next, Mir.flK_ret, Mir.flK_brk, Option.bind_none, decide_true, decide_false, Bool.not_true, Bool.not_false, Mir.pv_sh, Mir.pv_own, List.cons_append, List.nil_append, Mir.okK_ok, Int.reducePow, Int.reduceToNat, Int.reduceMul, Int.reduceAdd, Int.reduceSub, Int.reduceNeg, Nat.reducePow, Nat.reduceMul, Nat.reduceAdd, Nat.reduceSub, Int.one_mul, Int.zero_add, Int.zero_mul, ↓Mir.atI_nat, Int.toNat_natCast])
theorem deed_ex (ns : List Int) (k rest : Int) (B : List Bx) (hB : goodB B) (n : Nat) (hn : 3 ≤ n) (k0 : 0 ≤ k) (k1 : k < 900000) (hr : 1 ≤ rest) (hr' : rest ≤ 1000) :
    ∃ d, goodD B rest d ∧ fns P n 11 [.lst (ns.map PV.int), .int k, .tup (B.map fun b => PV.tup [.str b.1, .tup (b.2.map PV.int)]), .int rest] = some (.sh d.pv) := by
  obtain ⟨n, rfl⟩ : ∃ j, n = j + 1 := ⟨n - 1, by omega⟩
  rw [r11, b11]
  have r0' := Int.fmod_nonneg_of_pos (mx ns (k + 1)) (b := rest) (by omega)
  have r1' := Int.fmod_lt_of_pos (mx ns (k + 1)) (b := rest) (by omega)
  have B8 := hB.1
  by_cases q : B.length = 0 ∨ (mx ns k).fmod 11 = 4
  · by_cases q0 : B.length = 0
    · walk_at "dd"
      exact ⟨.still _, ⟨by omega, by omega⟩, rfl⟩
    · have q4 : (mx ns k).fmod 11 = 4 := by omega
      walk_at "dd"
      exact ⟨.still _, ⟨by omega, by omega⟩, rfl⟩
  have q0 : ¬ B.length = 0 := fun h => q (.inl h)
  have q4 : ¬ (mx ns k).fmod 11 = 4 := fun h => q (.inr h)
  have x0 := Int.fmod_nonneg_of_pos (mx ns (k + 1)) (b := (B.length : Int)) (by omega)
  have x1 := Int.fmod_lt_of_pos (mx ns (k + 1)) (b := (B.length : Int)) (by omega)
  walk_at "dd"
  simp only [List.length_map]
  obtain ⟨x, hx⟩ : ∃ x : Nat, (mx ns (k + 1)).fmod (B.length : Int) = x := ⟨_, (Int.toNat_of_nonneg x0).symm⟩
  simp only [hx, Int.toNat_natCast] at x0 x1 ⊢
  have hxl : x < B.length := by omega
  have gx := hB.2 _ (getD_mem (d := e0) hxl)
  rw [comp_go (List.range B.length) (fun (y : Nat) => .int (y : Int)) (fun (y : Nat) => if (decide (y ≠ x) && decide ((B.getD y e0).2.length = (B.getD x e0).2.length)) = true then some (.int (y : Int)) else none) (rangeL_zero _) ?_ (by rw [List.length_range]; omega), filterMap_if]
  rotate_left
  · intro y hy
    have hy' := List.mem_range.mp hy
    walk_at "dd"
    rw [ifB_nand]
    exact ifB_someD (by simp only [Bool.and_eq_true, Bool.not_eq_true', decide_eq_false_iff_not, decide_eq_true_eq, List.length_map, ne_eq]; omega)
  have hM : ∀ m ∈ (List.range B.length).filter (fun y => decide (y ≠ x) && decide ((B.getD y e0).2.length = (B.getD x e0).2.length)), m < B.length ∧ m ≠ x ∧ bz B m = bz B x := fun m hm => by
    have := List.mem_filter.mp hm
    simp only [List.mem_range, Bool.and_eq_true, decide_eq_true_eq, ne_eq] at this
    exact ⟨this.1, this.2.1, this.2.2⟩
  have lM : ((List.range B.length).filter (fun y => decide (y ≠ x) && decide ((B.getD y e0).2.length = (B.getD x e0).2.length))).length ≤ B.length := Nat.le_trans (List.length_filter_le _ _) (by rw [List.length_range]; exact Nat.le_refl _)
  generalize (List.range B.length).filter (fun y => decide (y ≠ x) && decide ((B.getD y e0).2.length = (B.getD x e0).2.length)) = M at hM lM ⊢
  have m0 := Int.fmod_nonneg_of_pos (mx ns (k + 4)) (b := (M.length : Int) + 1) (by omega)
  have m1 := Int.fmod_lt_of_pos (mx ns (k + 4)) (b := (M.length : Int) + 1) (by omega)
  obtain ⟨m, hm, hma⟩ := mate_at M x _ m0 m1
  have hm' : m < B.length ∧ bz B m = bz B x := by
    rcases hm with hm | rfl
    · exact ⟨(hM m hm).1, (hM m hm).2.2⟩
    · exact ⟨hxl, rfl⟩
  have gm := hB.2 _ (getD_mem (d := e0) hm'.1)
  have hml := hm'.1
  walk_at "dd"
  simp only [List.length_map]
  rw [hma]
  have hk0 := Int.fmod_nonneg_of_pos (mx ns k) (b := 11) (by decide)
  have hk1 := Int.fmod_lt_of_pos (mx ns k) (b := 11) (by decide)
  have bx1 : bz B x = (B.getD x e0).2.length := rfl
  by_cases c5 : (mx ns k).fmod 11 = 5
  · walk_at "dd"
    simp only [c5, ifB_eq, Int.reduceSub, Int.reduceEq, if_true, if_false]
    repeat' split
    all_goals exact ⟨.is x m _, ⟨hxl, hml, hm'.2.symm⟩, rfl⟩
  by_cases c6 : (mx ns k).fmod 11 = 6
  · walk_at "dd"
    simp only [c6, ifB_eq, Int.reduceSub, Int.reduceEq, if_true, if_false]
    repeat' split
    all_goals exact ⟨.most x m _, ⟨hxl, hml, hm'.2.symm⟩, rfl⟩
  by_cases c1 : (mx ns k).fmod 11 = 1 ∧ m ≠ x
  · obtain ⟨c1, cx⟩ := c1
    walk_at "dd"
    exact ⟨.copy x m, ⟨hxl, hml, Ne.symm cx, hm'.2.symm⟩, rfl⟩
  by_cases c2 : (mx ns k).fmod 11 = 2
  · walk_at "dd"
    exact ⟨.grow x _, hxl, rfl⟩
  by_cases c3 : (mx ns k).fmod 11 = 3
  · by_cases s2 : (B.getD x e0).2.length = 2
    · walk_at "dd"
      exact ⟨.grow x _, hxl, rfl⟩
    · walk_at "dd"
      exact ⟨.tick x, ⟨hxl, by omega⟩, rfl⟩
  by_cases c7 : (mx ns k).fmod 11 = 7
  · walk_at "dd"
    exact ⟨.none x, hxl, rfl⟩
  by_cases c10 : (mx ns k).fmod 11 = 10
  · walk_at "dd"
    exact ⟨.none x, hxl, rfl⟩
  have kr : ¬ (mx ns k).fmod 11 = 1 ∨ ((mx ns k).fmod 11 = 1 ∧ m = x) := by
    by_cases a : (mx ns k).fmod 11 = 1
    · exact .inr ⟨a, Classical.byContradiction fun h => c1 ⟨a, h⟩⟩
    · exact .inl a
  rcases kr with k1' | ⟨k1', mxe⟩
  all_goals
    walk_at "dd"
    try simp only [List.length_map]
    rw [comp_go (List.range B.length) (fun (y : Nat) => .int (y : Int)) (fun (y : Nat) => if (decide (y ≠ x) && (decide (y ≠ m) && decide ((B.getD y e0).2.length = 1))) = true then some (.int (y : Int)) else none) (rangeL_zero _) ?_ (by rw [List.length_range]; omega), filterMap_if]
    rotate_left
    · intro y hy
      have hy' := List.mem_range.mp hy
      walk_at "dd"
      rw [ifB_nand, ifB_nand]
      exact ifB_someD (by simp only [Bool.and_eq_true, Bool.not_eq_true', decide_eq_false_iff_not, decide_eq_true_eq, List.length_map, ne_eq]; omega)
    have hT : ∀ t ∈ (List.range B.length).filter (fun y => decide (y ≠ x) && (decide (y ≠ m) && decide ((B.getD y e0).2.length = 1))), t < B.length ∧ t ≠ x ∧ t ≠ m ∧ bz B t = 1 := fun t ht => by
      have := List.mem_filter.mp ht
      simp only [List.mem_range, Bool.and_eq_true, decide_eq_true_eq, ne_eq] at this
      exact ⟨this.1, this.2.1, this.2.2.1, this.2.2.2⟩
    have lT : ((List.range B.length).filter (fun y => decide (y ≠ x) && (decide (y ≠ m) && decide ((B.getD y e0).2.length = 1)))).length ≤ B.length := Nat.le_trans (List.length_filter_le _ _) (by rw [List.length_range]; exact Nat.le_refl _)
    generalize (List.range B.length).filter (fun y => decide (y ≠ x) && (decide (y ≠ m) && decide ((B.getD y e0).2.length = 1))) = T at hT lT ⊢
    by_cases c8 : (mx ns k).fmod 11 = 8 ∧ m ≠ x ∧ 0 < T.length
    · obtain ⟨c8, cx, cT⟩ := c8
      first
      | (exfalso; omega)
      | (have t0 := Int.fmod_nonneg_of_pos ((mx ns (k + 1)).fdiv 5) (b := (T.length : Int)) (by omega)
         have t1 := Int.fmod_lt_of_pos ((mx ns (k + 1)).fdiv 5) (b := (T.length : Int)) (by omega)
         obtain ⟨t, ht, hta⟩ := tally_at T _ t0 t1
         have ht' := hT t ht
         walk_at "dd"
         try simp only [List.length_map]
         rw [hta]
         walk_at "dd"
         exact ⟨.anew x m t, ⟨hxl, hml, Ne.symm cx, hm'.2.symm, ht'⟩, rfl⟩)
    · have w : ¬ (mx ns k).fmod 11 = 8 ∨ ((mx ns k).fmod 11 = 8 ∧ m = x) ∨ ((mx ns k).fmod 11 = 8 ∧ ¬ m = x ∧ T.length = 0) := by omega
      by_cases s1 : (B.getD x e0).2.length = 1
      · rcases w with w | ⟨w, w'⟩ | ⟨w, w', w''⟩ <;> first
        | (exfalso; omega)
        | (walk_at "dd"
           exact ⟨.put x [nm ns (k + 2)], ⟨hxl, by rw [bx1, s1]; rfl⟩, rfl⟩)
      · have s2 : (B.getD x e0).2.length = 2 := by omega
        rcases w with w | ⟨w, w'⟩ | ⟨w, w', w''⟩ <;> first
        | (exfalso; omega)
        | (walk_at "dd"
           exact ⟨.put x [nm ns (k + 2), nm ns (k + 5)], ⟨hxl, by rw [bx1, s2]; rfl⟩, rfl⟩)
/-- a row: its name, its rank, its places (a deed and a word) -/
abbrev Rw := Str × Int × List (Dd × Int)
def r0w : Rw := (⟨#[]⟩, 0, [])
def goodP (B : List Bx) (rest : Int) (bells : Nat) (L : List (Dd × Int)) : Prop := ∀ q ∈ L, goodD B rest q.1 ∧ 0 ≤ q.2 ∧ q.2 < 2 * 2 ^ bells ∧ q.2 % 2 = 0
local macro_rules | `(tactic| walk_at "rw") => `(tactic| simp (maxSteps := 4000000) (disch := first | omega | assumption | ((try simp only [List.length_cons, List.length_nil, List.length_append, List.length_map, List.length_range]); omega) | decide) only [↓mixed_k, ↓Mir.k_non, ↓Mir.k_bl, ↓Mir.k_int, ↓Mir.k_str, ↓Mir.k_glob, ↓Mir.k_var_sh0, ↓Mir.k_var_own0, ↓Mir.k_var_sh1, ↓Mir.k_var_own1, ↓Mir.k_var_sh2, ↓Mir.k_var_own2, ↓Mir.k_var_sh3, ↓Mir.k_var_own3, ↓Mir.k_var_sh4, ↓Mir.k_var_own4, ↓Mir.k_var_sh5, ↓Mir.k_var_own5, ↓Mir.k_var_sh6, ↓Mir.k_var_own6, ↓Mir.k_var_sh7, ↓Mir.k_var_own7, ↓Mir.k_var_sh8, ↓Mir.k_var_own8, ↓Mir.k_var_sh9, ↓Mir.k_var_own9, ↓Mir.k_var_sh10, ↓Mir.k_var_own10, ↓Mir.k_var_sh11, ↓Mir.k_var_own11, ↓Mir.k_var_sh12, ↓Mir.k_var_own12, ↓Mir.k_var_sh13, ↓Mir.k_var_own13, ↓Mir.k_var_sh14, ↓Mir.k_var_own14, ↓Mir.k_var_sh15, ↓Mir.k_var_own15, ↓Mir.k_var_sh16, ↓Mir.k_var_own16, ↓Mir.k_var_sh17, ↓Mir.k_var_own17, ↓Mir.k_var_sh18, ↓Mir.k_var_own18, ↓Mir.k_var_sh19, ↓Mir.k_var_own19, ↓Mir.k_var_sh20, ↓Mir.k_var_own20, ↓Mir.k_var_sh21, ↓Mir.k_var_own21, ↓Mir.k_var_sh22, ↓Mir.k_var_own22, ↓Mir.k_var_sh23, ↓Mir.k_var_own23, ↓Mir.k_var_sh24, ↓Mir.k_var_own24, ↓Mir.k_var_sh25, ↓Mir.k_var_own25, ↓Mir.k_bin, ↓Mir.k_cmp, ↓Mir.ifB_t, ↓Mir.ifB_f, ↓Mir.k_chain, ↓Mir.boolK_bl, ↓Mir.intK_int, ↓Mir.k_and, ↓Mir.k_or, ↓Mir.k_not, ↓Mir.k_neg, ↓Mir.k_inv, ↓Mir.k_ife, ↓Mir.k_ix, ↓Mir.k_slc, ↓Mir.k_tup, ↓Mir.k_lst, ↓Mir.k_call, ↓Mir.callK_1, ↓Mir.callK_2, ↓Mir.callK_3, ↓Mir.callK_4, ↓Mir.callK_5, ↓Mir.callK_6, ↓Mir.callK_7, ↓Mir.callK_8, ↓Mir.callK_Int, ↓Mir.callK_Bool, ↓Mir.callK_Str, ↓Mir.callK_non, ↓Mir.k_blt, ↓Mir.k_isi, ↓Mir.k_meth, ↓Mir.k_comp, ↓Mir.k_no, ↓Mir.k_some, ↓Mir.k_yes, ↓Mir.k_on, ↓Mir.k_nil, ↓Mir.k_cons, ↓Mir.t_val, ↓Mir.t_cmp, ↓Mir.t_chain, ↓Mir.t_and, ↓Mir.t_or, ↓Mir.t_not, ↓Mir.i_val, ↓Mir.i_range1, ↓Mir.i_range2, ↓Mir.lstK_lst, ↓Mir.i_enum, ↓Mir.seqK_lst, ↓Mir.seqK_tup, ↓Mir.i_rev, ↓Mir.i_zip, ↓Mir.p_sh, ↓Mir.p_own, ↓Mir.ps_nil, ↓Mir.ps_cons, ↓Mir.f_sh, ↓Mir.f_own, ↓Mir.fs_nil, ↓Mir.fs_cons, ↓Mir.fo_t, ↓Mir.p_b_own0, ↓Mir.p_b_sh0, ↓Mir.f_b0, ↓Mir.fo_b0, ↓Mir.p_b_own1, ↓Mir.p_b_sh1, ↓Mir.f_b1, ↓Mir.fo_b1, ↓Mir.p_b_own2, ↓Mir.p_b_sh2, ↓Mir.f_b2, ↓Mir.fo_b2, ↓Mir.p_b_own3, ↓Mir.p_b_sh3, ↓Mir.f_b3, ↓Mir.fo_b3, ↓Mir.p_b_own4, ↓Mir.p_b_sh4, ↓Mir.f_b4, ↓Mir.fo_b4, ↓Mir.p_b_own5, ↓Mir.p_b_sh5, ↓Mir.f_b5, ↓Mir.fo_b5, ↓Mir.p_b_own6, ↓Mir.p_b_sh6, ↓Mir.f_b6, ↓Mir.fo_b6, ↓Mir.p_b_own7, ↓Mir.p_b_sh7, ↓Mir.f_b7, ↓Mir.fo_b7, ↓Mir.p_b_own8, ↓Mir.p_b_sh8, ↓Mir.f_b8, ↓Mir.fo_b8, ↓Mir.p_b_own9, ↓Mir.p_b_sh9, ↓Mir.f_b9, ↓Mir.fo_b9, ↓Mir.p_b_own10, ↓Mir.p_b_sh10, ↓Mir.f_b10, ↓Mir.fo_b10, ↓Mir.p_b_own11, ↓Mir.p_b_sh11, ↓Mir.f_b11, ↓Mir.fo_b11, ↓Mir.p_b_own12, ↓Mir.p_b_sh12, ↓Mir.f_b12, ↓Mir.fo_b12, ↓Mir.p_b_own13, ↓Mir.p_b_sh13, ↓Mir.f_b13, ↓Mir.fo_b13, ↓Mir.p_b_own14, ↓Mir.p_b_sh14, ↓Mir.f_b14, ↓Mir.fo_b14, ↓Mir.p_b_own15, ↓Mir.p_b_sh15, ↓Mir.f_b15, ↓Mir.fo_b15, ↓Mir.p_b_own16, ↓Mir.p_b_sh16, ↓Mir.f_b16, ↓Mir.fo_b16, ↓Mir.p_b_own17, ↓Mir.p_b_sh17, ↓Mir.f_b17, ↓Mir.fo_b17, ↓Mir.p_b_own18, ↓Mir.p_b_sh18, ↓Mir.f_b18, ↓Mir.fo_b18, ↓Mir.p_b_own19, ↓Mir.p_b_sh19, ↓Mir.f_b19, ↓Mir.fo_b19, ↓Mir.p_b_own20, ↓Mir.p_b_sh20, ↓Mir.f_b20, ↓Mir.fo_b20, ↓Mir.p_b_own21, ↓Mir.p_b_sh21, ↓Mir.f_b21, ↓Mir.fo_b21, ↓Mir.p_b_own22, ↓Mir.p_b_sh22, ↓Mir.f_b22, ↓Mir.fo_b22, ↓Mir.p_b_own23, ↓Mir.p_b_sh23, ↓Mir.f_b23, ↓Mir.fo_b23, ↓Mir.p_b_own24, ↓Mir.p_b_sh24, ↓Mir.f_b24, ↓Mir.fo_b24, ↓Mir.p_b_own25, ↓Mir.p_b_sh25, ↓Mir.f_b25, ↓Mir.fo_b25, ↓Mir.pv_sh, ↓Mir.pv_own, ↓Mir.bt_name0, ↓Mir.sa_0, ↓Mir.bt_name1, ↓Mir.sa_1, ↓Mir.bt_name2, ↓Mir.sa_2, ↓Mir.bt_name3, ↓Mir.sa_3, ↓Mir.bt_name4, ↓Mir.sa_4, ↓Mir.bt_name5, ↓Mir.sa_5, ↓Mir.bt_name6, ↓Mir.sa_6, ↓Mir.bt_name7, ↓Mir.sa_7, ↓Mir.bt_name8, ↓Mir.sa_8, ↓Mir.bt_name9, ↓Mir.sa_9, ↓Mir.bt_name10, ↓Mir.sa_10, ↓Mir.bt_name11, ↓Mir.sa_11, ↓Mir.bt_name12, ↓Mir.sa_12, ↓Mir.bt_name13, ↓Mir.sa_13, ↓Mir.bt_name14, ↓Mir.sa_14, ↓Mir.bt_name15, ↓Mir.sa_15, ↓Mir.bt_name16, ↓Mir.sa_16, ↓Mir.bt_name17, ↓Mir.sa_17, ↓Mir.bt_name18, ↓Mir.sa_18, ↓Mir.bt_name19, ↓Mir.sa_19, ↓Mir.bt_name20, ↓Mir.sa_20, ↓Mir.bt_name21, ↓Mir.sa_21, ↓Mir.bt_name22, ↓Mir.sa_22, ↓Mir.bt_name23, ↓Mir.sa_23, ↓Mir.bt_name24, ↓Mir.sa_24, ↓Mir.bt_name25, ↓Mir.sa_25, ↓Mir.sa_end, ↓Mir.bt_tup, ↓Mir.b_Add, ↓Mir.b_Sub, ↓Mir.b_BitAnd, ↓Mir.b_BitOr, ↓Mir.b_BitXor, ↓Mir.b_Mult, ↓Mir.b_Mod, ↓Mir.b_FloorDiv, ↓Mir.b_Pow, ↓Mir.b_LShift, ↓Mir.b_RShift, ↓Mir.b_Add_str, ↓Mir.b_Add_lst, ↓Mir.b_Add_tup, ↓Mir.c_Lt, ↓Mir.c_LtE, ↓Mir.c_Gt, ↓Mir.c_GtE, ↓Mir.c_Eq, ↓Mir.c_NotEq, ↓Mir.c_Eq_str, ↓Mir.c_NotEq_str, ↓Mir.c_Eq_bl, ↓Mir.c_NotEq_bl, ↓Mir.c_Eq_int_str, ↓Mir.c_NotEq_int_str, ↓Mir.c_Eq_str_int, ↓Mir.c_NotEq_str_int, ↓Mir.c_Eq_bl_str, ↓Mir.c_NotEq_bl_str, ↓Mir.c_Eq_str_bl, ↓Mir.c_NotEq_str_bl, ↓Mir.c_Eq_int_non, ↓Mir.c_NotEq_int_non, ↓Mir.c_Eq_str_non, ↓Mir.c_NotEq_str_non, ↓Mir.c_Eq_bl_non, ↓Mir.c_NotEq_bl_non, ↓Mir.c_Is_int, ↓Mir.c_IsNot_int, ↓Mir.c_Is_str, ↓Mir.c_IsNot_str, ↓Mir.c_Is_bl, ↓Mir.c_IsNot_bl, ↓Mir.c_Is_tup, ↓Mir.c_IsNot_tup, ↓Mir.c_Is_lst, ↓Mir.c_IsNot_lst, ↓Mir.c_Is_non, ↓Mir.c_IsNot_non, ↓Mir.c_In, ↓Mir.c_NotIn, ↓Mir.tr_bl, ↓Mir.tr_int, ↓Mir.tr_lst, ↓Mir.tr_tup, ↓Mir.tr_non, ↓Mir.x_lst, ↓Mir.x_tup, ↓Mir.at_0, ↓Mir.at_1, ↓Mir.at_2, ↓Mir.at_3, ↓Mir.at_4, ↓Mir.at_5, ↓Mir.at_6, ↓Mir.at_7, ↓Mir.sl_lst, ↓Mir.sl_tup, ↓Mir.bl_len_lst, ↓Mir.bl_len_tup, ↓Mir.bl_abs, ↓Mir.bl_max, ↓Mir.bl_min, ↓Mir.bl_int_int, ↓Mir.bl_int_bl, ↓Mir.bl_list_lst, ↓Mir.bl_list_tup, ↓Mir.bl_tuple_lst, ↓Mir.bl_tuple_tup, ↓Mir.bl_sum, ↓Mir.bl_all, ↓Mir.bl_any, ↓Mir.bl_sorted, ↓Mir.as_ints, ↓Mir.as_bls, ↓Mir.as_strs, ↓Mir.is_non_tuple, ↓Mir.is_non_list, ↓Mir.is_non_bool, ↓Mir.is_non_int, ↓Mir.is_non_str, ↓Mir.is_bl_tuple, ↓Mir.is_bl_list, ↓Mir.is_bl_bool, ↓Mir.is_bl_int, ↓Mir.is_bl_str, ↓Mir.is_int_tuple, ↓Mir.is_int_list, ↓Mir.is_int_bool, ↓Mir.is_int_int, ↓Mir.is_int_str, ↓Mir.is_str_tuple, ↓Mir.is_str_list, ↓Mir.is_str_bool, ↓Mir.is_str_int, ↓Mir.is_str_str, ↓Mir.is_lst_tuple, ↓Mir.is_lst_list, ↓Mir.is_lst_bool, ↓Mir.is_lst_int, ↓Mir.is_lst_str, ↓Mir.is_tup_tuple, ↓Mir.is_tup_list, ↓Mir.is_tup_bool, ↓Mir.is_tup_int, ↓Mir.is_tup_str, ↓Mir.it_lst, ↓Mir.it_tup, ↓Mir.z_lst, ↓Mir.z_tup, ↓Mir.s_nil, ↓Mir.s_set, ↓Mir.s_expr, ↓Mir.s_ret, ↓Mir.s_retN, ↓Mir.s_pass, ↓Mir.s_brk, ↓Mir.ifS_t, ↓Mir.ifS_f, ↓Mir.s_if, ↓Mir.s_for, ↓Mir.s_while, ↓Mir.s_app0, ↓Mir.appE_0, ↓Mir.s_ext0, ↓Mir.extE_0, ↓Mir.setE_0, ↓Mir.s_app1, ↓Mir.appE_1, ↓Mir.s_ext1, ↓Mir.extE_1, ↓Mir.setE_1, ↓Mir.s_app2, ↓Mir.appE_2, ↓Mir.s_ext2, ↓Mir.extE_2, ↓Mir.setE_2, ↓Mir.s_app3, ↓Mir.appE_3, ↓Mir.s_ext3, ↓Mir.extE_3, ↓Mir.setE_3, ↓Mir.s_app4, ↓Mir.appE_4, ↓Mir.s_ext4, ↓Mir.extE_4, ↓Mir.setE_4, ↓Mir.s_app5, ↓Mir.appE_5, ↓Mir.s_ext5, ↓Mir.extE_5, ↓Mir.setE_5, ↓Mir.s_app6, ↓Mir.appE_6, ↓Mir.s_ext6, ↓Mir.extE_6, ↓Mir.setE_6, ↓Mir.s_app7, ↓Mir.appE_7, ↓Mir.s_ext7, ↓Mir.extE_7, ↓Mir.setE_7, ↓Mir.s_app8, ↓Mir.appE_8, ↓Mir.s_ext8, ↓Mir.extE_8, ↓Mir.setE_8, ↓Mir.s_app9, ↓Mir.appE_9, ↓Mir.s_ext9, ↓Mir.extE_9, ↓Mir.setE_9, ↓Mir.s_app10, ↓Mir.appE_10, ↓Mir.s_ext10, ↓Mir.extE_10, ↓Mir.setE_10, ↓Mir.s_app11, ↓Mir.appE_11, ↓Mir.s_ext11, ↓Mir.extE_11, ↓Mir.setE_11, ↓Mir.s_app12, ↓Mir.appE_12, ↓Mir.s_ext12, ↓Mir.extE_12, ↓Mir.setE_12, ↓Mir.s_app13, ↓Mir.appE_13, ↓Mir.s_ext13, ↓Mir.extE_13, ↓Mir.setE_13, ↓Mir.s_app14, ↓Mir.appE_14, ↓Mir.s_ext14, ↓Mir.extE_14, ↓Mir.setE_14, ↓Mir.s_app15, ↓Mir.appE_15, ↓Mir.s_ext15, ↓Mir.extE_15, ↓Mir.setE_15, ↓Mir.s_app16, ↓Mir.appE_16, ↓Mir.s_ext16, ↓Mir.extE_16, ↓Mir.setE_16, ↓Mir.s_app17, ↓Mir.appE_17, ↓Mir.s_ext17, ↓Mir.extE_17, ↓Mir.setE_17, ↓Mir.s_app18, ↓Mir.appE_18, ↓Mir.s_ext18, ↓Mir.extE_18, ↓Mir.setE_18, ↓Mir.s_app19, ↓Mir.appE_19, ↓Mir.s_ext19, ↓Mir.extE_19, ↓Mir.setE_19, ↓Mir.s_app20, ↓Mir.appE_20, ↓Mir.s_ext20, ↓Mir.extE_20, ↓Mir.setE_20, ↓Mir.s_app21, ↓Mir.appE_21, ↓Mir.s_ext21, ↓Mir.extE_21, ↓Mir.setE_21, ↓Mir.s_app22, ↓Mir.appE_22, ↓Mir.s_ext22, ↓Mir.extE_22, ↓Mir.setE_22, ↓Mir.s_app23, ↓Mir.appE_23, ↓Mir.s_ext23, ↓Mir.extE_23, ↓Mir.setE_23, ↓Mir.s_app24, ↓Mir.appE_24, ↓Mir.s_ext24, ↓Mir.extE_24, ↓Mir.setE_24, ↓Mir.s_app25, ↓Mir.appE_25, ↓Mir.s_ext25, ↓Mir.extE_25, ↓Mir.setE_25, ↓Mir.ifS_not, ↓Mir.ifS_pos, ↓Mir.ifS_neg, ↓Mir.ifB_not, ↓Mir.ifB_pos, ↓Mir.ifB_neg, ↓Mir.turnC_eq, ↓Mir.shNs_nil, ↓Mir.shNs_cons, ↓Mir.shN1_ok, Mir.shN1_none, Mir.shN1_sh, Mir.wipe_nil, Mir.wipe_cons, Mir.back_nil, Mir.back_cons, List.set_cons_zero, List.set_cons_succ, List.getD_cons_zero, List.getD_cons_succ, List.map_cons, List.map_nil, ↓Mir.limK_le, ↓Mir.inRK_ok, ↓Mir.okK_ok, ↓Mir.appK_ok, ↓Mir.extK_ok, ↓Mir.finK_ret, ↓Mir.finK_next, ↓Mir.finK_for, ↓Mir.finK_while, ↓Mir.finK_comp, ↓Mir.finK_ifB, ↓Mir.finK_ifS, Mir.app_nil, Mir.app_cons, Mir.flK_next, Mir.flK_ret, Mir.flK_brk, Option.bind_none, decide_true, decide_false, Bool.not_true, Bool.not_false, Mir.pv_sh, Mir.pv_own, List.cons_append, List.nil_append, Mir.okK_ok, Int.reducePow, Int.reduceToNat, Int.reduceMul, Int.reduceAdd, Int.reduceSub, Int.reduceNeg, Nat.reducePow, Nat.reduceMul, Nat.reduceAdd, Nat.reduceSub, Int.one_mul, Int.zero_add, Int.zero_mul, ↓Mir.atI_nat, Int.toNat_natCast])
theorem row_ex (ns : List Int) (k rest : Int) (B : List Bx) (hB : goodB B) (bells : Nat) (longest : Int) (n : Nat) (hn : 4 ≤ n) (k0 : 0 ≤ k) (k1 : k < 800000) (hr : 1 ≤ rest) (hr' : rest ≤ 1000) (hb : bells ≤ 6) (hl : 1 ≤ longest) (hl' : longest ≤ 100) :
    ∃ L : List (Dd × Int), goodP B rest bells L ∧ 1 ≤ L.length ∧ (L.length : Int) ≤ longest ∧ fns P n 12 [.lst (ns.map PV.int), .int k, .tup (B.map fun b => PV.tup [.str b.1, .tup (b.2.map PV.int)]), .int bells, .int longest, .int rest] = some (.sh (.tup (L.map fun q => PV.tup [q.1.pv, .int q.2]))) := by
  obtain ⟨n, rfl⟩ : ∃ j, n = j + 1 := ⟨n - 1, by omega⟩
  rw [r12, b12]
  have l0 := Int.fmod_nonneg_of_pos (mx ns k) (b := longest) (by omega)
  have l1 := Int.fmod_lt_of_pos (mx ns k) (b := longest) (by omega)
  walk_at "rw"
  refine for_range_any (fun X : Option Sl => ∃ L : List (Dd × Int), goodP B rest bells L ∧ 1 ≤ L.length ∧ (L.length : Int) ≤ longest ∧ X = some (Sl.sh (.tup (L.map fun q => PV.tup [q.1.pv, .int q.2])))) (1 + (mx ns k).fmod longest).toNat (fun (k : Nat) => .int (k : Int))
    (fun i e => ∃ L : List (Dd × Int), L.length = i ∧ goodP B rest bells L ∧ ∃ j7 j8 j9 j10, e = [some (.sh (.lst (ns.map PV.int))), some (.sh (.int k)), some (.sh (.tup (B.map fun b => PV.tup [.str b.1, .tup (b.2.map PV.int)]))), some (.sh (.int bells)), some (.sh (.int longest)), some (.sh (.int rest)), some (.own (L.map fun q => PV.tup [q.1.pv, .int q.2])), j7, j8, j9, j10]) (rangeL_zero _) ⟨[], rfl, (fun b hb => by cases hb), _, _, _, _, rfl⟩ ?_ ?_
  · rintro i e hi ⟨L, hL, hg, j7, j8, j9, j10, rfl⟩
    have hlen : (L.map fun q => PV.tup [q.1.pv, .int q.2]).length < 16777216 := by rw [List.length_map]; omega
    obtain ⟨d, hd, he⟩ := deed_ex ns (k + 3 + 8 * (i : Int)) rest B hB n (by omega) (by omega) (by omega) hr hr'
    have add : ∀ q : Dd × Int, (goodD B rest q.1 ∧ 0 ≤ q.2 ∧ q.2 < 2 * 2 ^ bells ∧ q.2 % 2 = 0) → goodP B rest bells (L ++ [q]) := fun q h x hx => by
      rcases List.mem_append.mp hx with hx | hx
      · exact hg x hx
      · rw [List.mem_singleton.mp hx]; exact h
    have p2 : (0 : Int) < 2 ^ bells := Int.pow_pos (by decide)
    by_cases s : (mx ns (k + 3 + 8 * (i : Int) + 7)).fmod 2 = 1
    · have w0 := Int.fmod_nonneg_of_pos ((mx ns (k + 3 + 8 * (i : Int) + 7)).fdiv 2) p2
      have w1 := Int.fmod_lt_of_pos ((mx ns (k + 3 + 8 * (i : Int) + 7)).fdiv 2) p2
      walk_at "rw"
      rw [he, Option.bind_some]
      walk_at "rw"
      refine ⟨_, rfl, L ++ [(d, 2 * ((mx ns (k + 3 + 8 * (i : Int) + 7)).fdiv 2).fmod (2 ^ bells))], by rw [List.length_append, hL]; rfl, add _ ⟨hd, by show 0 ≤ 2 * _; omega, by show 2 * _ < 2 * _; omega, by show (2 * _) % 2 = 0; omega⟩, ?_⟩
      rw [List.map_append]
      exact ⟨_, _, _, _, rfl⟩
    · walk_at "rw"
      rw [he, Option.bind_some]
      walk_at "rw"
      refine ⟨_, rfl, L ++ [(d, 0)], by rw [List.length_append, hL]; rfl, add _ ⟨hd, by show (0 : Int) ≤ 0; decide, by show (0 : Int) < 2 * 2 ^ bells; omega, by show (0 : Int) % 2 = 0; decide⟩, ?_⟩
      rw [List.map_append]
      exact ⟨_, _, _, _, rfl⟩
  · rintro e ⟨L, hL, hg, j7, j8, j9, j10, rfl⟩
    refine ⟨L, hg, by omega, by omega, ?_⟩
    walk_at "rw"
abbrev rwpv (w : Rw) : PV := .tup [.str w.1, .int w.2.1, .tup (w.2.2.map fun q => PV.tup [q.1.pv, .int q.2])]
/-- a program as the law draws it -/
def goodR (B : List Bx) (rest : Int) (bells : Nat) (R : List Rw) : Prop := ∀ w ∈ R, goodP B rest bells w.2.2 ∧ 1 ≤ w.2.2.length ∧ w.2.2.length ≤ 4 ∧ 0 ≤ w.2.1 ∧ w.2.1 ≤ 9
local macro_rules | `(tactic| walk_at "pg") => `(tactic| simp (maxSteps := 4000000) (disch := first | omega | assumption | ((try simp only [List.length_cons, List.length_nil, List.length_append, List.length_map, List.length_range]); omega) | decide) only [↓mixed_k, ↓chr6, ↓Mir.atI_two, ↓Mir.k_non, ↓Mir.k_bl, ↓Mir.k_int, ↓Mir.k_str, ↓Mir.k_glob, ↓Mir.k_var_sh0, ↓Mir.k_var_own0, ↓Mir.k_var_sh1, ↓Mir.k_var_own1, ↓Mir.k_var_sh2, ↓Mir.k_var_own2, ↓Mir.k_var_sh3, ↓Mir.k_var_own3, ↓Mir.k_var_sh4, ↓Mir.k_var_own4, ↓Mir.k_var_sh5, ↓Mir.k_var_own5, ↓Mir.k_var_sh6, ↓Mir.k_var_own6, ↓Mir.k_var_sh7, ↓Mir.k_var_own7, ↓Mir.k_var_sh8, ↓Mir.k_var_own8, ↓Mir.k_var_sh9, ↓Mir.k_var_own9, ↓Mir.k_var_sh10, ↓Mir.k_var_own10, ↓Mir.k_var_sh11, ↓Mir.k_var_own11, ↓Mir.k_var_sh12, ↓Mir.k_var_own12, ↓Mir.k_var_sh13, ↓Mir.k_var_own13, ↓Mir.k_var_sh14, ↓Mir.k_var_own14, ↓Mir.k_var_sh15, ↓Mir.k_var_own15, ↓Mir.k_var_sh16, ↓Mir.k_var_own16, ↓Mir.k_var_sh17, ↓Mir.k_var_own17, ↓Mir.k_var_sh18, ↓Mir.k_var_own18, ↓Mir.k_var_sh19, ↓Mir.k_var_own19, ↓Mir.k_var_sh20, ↓Mir.k_var_own20, ↓Mir.k_var_sh21, ↓Mir.k_var_own21, ↓Mir.k_var_sh22, ↓Mir.k_var_own22, ↓Mir.k_var_sh23, ↓Mir.k_var_own23, ↓Mir.k_var_sh24, ↓Mir.k_var_own24, ↓Mir.k_var_sh25, ↓Mir.k_var_own25, ↓Mir.k_bin, ↓Mir.k_cmp, ↓Mir.ifB_t, ↓Mir.ifB_f, ↓Mir.k_chain, ↓Mir.boolK_bl, ↓Mir.intK_int, ↓Mir.k_and, ↓Mir.k_or, ↓Mir.k_not, ↓Mir.k_neg, ↓Mir.k_inv, ↓Mir.k_ife, ↓Mir.k_ix, ↓Mir.k_slc, ↓Mir.k_tup, ↓Mir.k_lst, ↓Mir.k_call, ↓Mir.callK_1, ↓Mir.callK_2, ↓Mir.callK_3, ↓Mir.callK_4, ↓Mir.callK_5, ↓Mir.callK_6, ↓Mir.callK_7, ↓Mir.callK_8, ↓Mir.callK_Int, ↓Mir.callK_Bool, ↓Mir.callK_Str, ↓Mir.callK_non, ↓Mir.k_blt, ↓Mir.k_isi, ↓Mir.k_meth, ↓Mir.k_comp, ↓Mir.k_no, ↓Mir.k_some, ↓Mir.k_yes, ↓Mir.k_on, ↓Mir.k_nil, ↓Mir.k_cons, ↓Mir.t_val, ↓Mir.t_cmp, ↓Mir.t_chain, ↓Mir.t_and, ↓Mir.t_or, ↓Mir.t_not, ↓Mir.i_val, ↓Mir.i_range1, ↓Mir.i_range2, ↓Mir.lstK_lst, ↓Mir.i_enum, ↓Mir.seqK_lst, ↓Mir.seqK_tup, ↓Mir.i_rev, ↓Mir.i_zip, ↓Mir.p_sh, ↓Mir.p_own, ↓Mir.ps_nil, ↓Mir.ps_cons, ↓Mir.f_sh, ↓Mir.f_own, ↓Mir.fs_nil, ↓Mir.fs_cons, ↓Mir.fo_t, ↓Mir.p_b_own0, ↓Mir.p_b_sh0, ↓Mir.f_b0, ↓Mir.fo_b0, ↓Mir.p_b_own1, ↓Mir.p_b_sh1, ↓Mir.f_b1, ↓Mir.fo_b1, ↓Mir.p_b_own2, ↓Mir.p_b_sh2, ↓Mir.f_b2, ↓Mir.fo_b2, ↓Mir.p_b_own3, ↓Mir.p_b_sh3, ↓Mir.f_b3, ↓Mir.fo_b3, ↓Mir.p_b_own4, ↓Mir.p_b_sh4, ↓Mir.f_b4, ↓Mir.fo_b4, ↓Mir.p_b_own5, ↓Mir.p_b_sh5, ↓Mir.f_b5, ↓Mir.fo_b5, ↓Mir.p_b_own6, ↓Mir.p_b_sh6, ↓Mir.f_b6, ↓Mir.fo_b6, ↓Mir.p_b_own7, ↓Mir.p_b_sh7, ↓Mir.f_b7, ↓Mir.fo_b7, ↓Mir.p_b_own8, ↓Mir.p_b_sh8, ↓Mir.f_b8, ↓Mir.fo_b8, ↓Mir.p_b_own9, ↓Mir.p_b_sh9, ↓Mir.f_b9, ↓Mir.fo_b9, ↓Mir.p_b_own10, ↓Mir.p_b_sh10, ↓Mir.f_b10, ↓Mir.fo_b10, ↓Mir.p_b_own11, ↓Mir.p_b_sh11, ↓Mir.f_b11, ↓Mir.fo_b11, ↓Mir.p_b_own12, ↓Mir.p_b_sh12, ↓Mir.f_b12, ↓Mir.fo_b12, ↓Mir.p_b_own13, ↓Mir.p_b_sh13, ↓Mir.f_b13, ↓Mir.fo_b13, ↓Mir.p_b_own14, ↓Mir.p_b_sh14, ↓Mir.f_b14, ↓Mir.fo_b14, ↓Mir.p_b_own15, ↓Mir.p_b_sh15, ↓Mir.f_b15, ↓Mir.fo_b15, ↓Mir.p_b_own16, ↓Mir.p_b_sh16, ↓Mir.f_b16, ↓Mir.fo_b16, ↓Mir.p_b_own17, ↓Mir.p_b_sh17, ↓Mir.f_b17, ↓Mir.fo_b17, ↓Mir.p_b_own18, ↓Mir.p_b_sh18, ↓Mir.f_b18, ↓Mir.fo_b18, ↓Mir.p_b_own19, ↓Mir.p_b_sh19, ↓Mir.f_b19, ↓Mir.fo_b19, ↓Mir.p_b_own20, ↓Mir.p_b_sh20, ↓Mir.f_b20, ↓Mir.fo_b20, ↓Mir.p_b_own21, ↓Mir.p_b_sh21, ↓Mir.f_b21, ↓Mir.fo_b21, ↓Mir.p_b_own22, ↓Mir.p_b_sh22, ↓Mir.f_b22, ↓Mir.fo_b22, ↓Mir.p_b_own23, ↓Mir.p_b_sh23, ↓Mir.f_b23, ↓Mir.fo_b23, ↓Mir.p_b_own24, ↓Mir.p_b_sh24, ↓Mir.f_b24, ↓Mir.fo_b24, ↓Mir.p_b_own25, ↓Mir.p_b_sh25, ↓Mir.f_b25, ↓Mir.fo_b25, ↓Mir.pv_sh, ↓Mir.pv_own, ↓Mir.bt_name0, ↓Mir.sa_0, ↓Mir.bt_name1, ↓Mir.sa_1, ↓Mir.bt_name2, ↓Mir.sa_2, ↓Mir.bt_name3, ↓Mir.sa_3, ↓Mir.bt_name4, ↓Mir.sa_4, ↓Mir.bt_name5, ↓Mir.sa_5, ↓Mir.bt_name6, ↓Mir.sa_6, ↓Mir.bt_name7, ↓Mir.sa_7, ↓Mir.bt_name8, ↓Mir.sa_8, ↓Mir.bt_name9, ↓Mir.sa_9, ↓Mir.bt_name10, ↓Mir.sa_10, ↓Mir.bt_name11, ↓Mir.sa_11, ↓Mir.bt_name12, ↓Mir.sa_12, ↓Mir.bt_name13, ↓Mir.sa_13, ↓Mir.bt_name14, ↓Mir.sa_14, ↓Mir.bt_name15, ↓Mir.sa_15, ↓Mir.bt_name16, ↓Mir.sa_16, ↓Mir.bt_name17, ↓Mir.sa_17, ↓Mir.bt_name18, ↓Mir.sa_18, ↓Mir.bt_name19, ↓Mir.sa_19, ↓Mir.bt_name20, ↓Mir.sa_20, ↓Mir.bt_name21, ↓Mir.sa_21, ↓Mir.bt_name22, ↓Mir.sa_22, ↓Mir.bt_name23, ↓Mir.sa_23, ↓Mir.bt_name24, ↓Mir.sa_24, ↓Mir.bt_name25, ↓Mir.sa_25, ↓Mir.sa_end, ↓Mir.bt_tup, ↓Mir.b_Add, ↓Mir.b_Sub, ↓Mir.b_BitAnd, ↓Mir.b_BitOr, ↓Mir.b_BitXor, ↓Mir.b_Mult, ↓Mir.b_Mod, ↓Mir.b_FloorDiv, ↓Mir.b_Pow, ↓Mir.b_LShift, ↓Mir.b_RShift, ↓Mir.b_Add_str, ↓Mir.b_Add_lst, ↓Mir.b_Add_tup, ↓Mir.c_Lt, ↓Mir.c_LtE, ↓Mir.c_Gt, ↓Mir.c_GtE, ↓Mir.c_Eq, ↓Mir.c_NotEq, ↓Mir.c_Eq_str, ↓Mir.c_NotEq_str, ↓Mir.c_Eq_bl, ↓Mir.c_NotEq_bl, ↓Mir.c_Eq_int_str, ↓Mir.c_NotEq_int_str, ↓Mir.c_Eq_str_int, ↓Mir.c_NotEq_str_int, ↓Mir.c_Eq_bl_str, ↓Mir.c_NotEq_bl_str, ↓Mir.c_Eq_str_bl, ↓Mir.c_NotEq_str_bl, ↓Mir.c_Eq_int_non, ↓Mir.c_NotEq_int_non, ↓Mir.c_Eq_str_non, ↓Mir.c_NotEq_str_non, ↓Mir.c_Eq_bl_non, ↓Mir.c_NotEq_bl_non, ↓Mir.c_Is_int, ↓Mir.c_IsNot_int, ↓Mir.c_Is_str, ↓Mir.c_IsNot_str, ↓Mir.c_Is_bl, ↓Mir.c_IsNot_bl, ↓Mir.c_Is_tup, ↓Mir.c_IsNot_tup, ↓Mir.c_Is_lst, ↓Mir.c_IsNot_lst, ↓Mir.c_Is_non, ↓Mir.c_IsNot_non, ↓Mir.c_In, ↓Mir.c_NotIn, ↓Mir.tr_bl, ↓Mir.tr_int, ↓Mir.tr_lst, ↓Mir.tr_tup, ↓Mir.tr_non, ↓Mir.x_lst, ↓Mir.x_tup, ↓Mir.at_0, ↓Mir.at_1, ↓Mir.at_2, ↓Mir.at_3, ↓Mir.at_4, ↓Mir.at_5, ↓Mir.at_6, ↓Mir.at_7, ↓Mir.sl_lst, ↓Mir.sl_tup, ↓Mir.bl_len_lst, ↓Mir.bl_len_tup, ↓Mir.bl_abs, ↓Mir.bl_max, ↓Mir.bl_min, ↓Mir.bl_int_int, ↓Mir.bl_int_bl, ↓Mir.bl_list_lst, ↓Mir.bl_list_tup, ↓Mir.bl_tuple_lst, ↓Mir.bl_tuple_tup, ↓Mir.bl_sum, ↓Mir.bl_all, ↓Mir.bl_any, ↓Mir.bl_sorted, ↓Mir.as_ints, ↓Mir.as_bls, ↓Mir.as_strs, ↓Mir.is_non_tuple, ↓Mir.is_non_list, ↓Mir.is_non_bool, ↓Mir.is_non_int, ↓Mir.is_non_str, ↓Mir.is_bl_tuple, ↓Mir.is_bl_list, ↓Mir.is_bl_bool, ↓Mir.is_bl_int, ↓Mir.is_bl_str, ↓Mir.is_int_tuple, ↓Mir.is_int_list, ↓Mir.is_int_bool, ↓Mir.is_int_int, ↓Mir.is_int_str, ↓Mir.is_str_tuple, ↓Mir.is_str_list, ↓Mir.is_str_bool, ↓Mir.is_str_int, ↓Mir.is_str_str, ↓Mir.is_lst_tuple, ↓Mir.is_lst_list, ↓Mir.is_lst_bool, ↓Mir.is_lst_int, ↓Mir.is_lst_str, ↓Mir.is_tup_tuple, ↓Mir.is_tup_list, ↓Mir.is_tup_bool, ↓Mir.is_tup_int, ↓Mir.is_tup_str, ↓Mir.it_lst, ↓Mir.it_tup, ↓Mir.z_lst, ↓Mir.z_tup, ↓Mir.s_nil, ↓Mir.s_set, ↓Mir.s_expr, ↓Mir.s_ret, ↓Mir.s_retN, ↓Mir.s_pass, ↓Mir.s_brk, ↓Mir.ifS_t, ↓Mir.ifS_f, ↓Mir.s_if, ↓Mir.s_for, ↓Mir.s_while, ↓Mir.s_app0, ↓Mir.appE_0, ↓Mir.s_ext0, ↓Mir.extE_0, ↓Mir.setE_0, ↓Mir.s_app1, ↓Mir.appE_1, ↓Mir.s_ext1, ↓Mir.extE_1, ↓Mir.setE_1, ↓Mir.s_app2, ↓Mir.appE_2, ↓Mir.s_ext2, ↓Mir.extE_2, ↓Mir.setE_2, ↓Mir.s_app3, ↓Mir.appE_3, ↓Mir.s_ext3, ↓Mir.extE_3, ↓Mir.setE_3, ↓Mir.s_app4, ↓Mir.appE_4, ↓Mir.s_ext4, ↓Mir.extE_4, ↓Mir.setE_4, ↓Mir.s_app5, ↓Mir.appE_5, ↓Mir.s_ext5, ↓Mir.extE_5, ↓Mir.setE_5, ↓Mir.s_app6, ↓Mir.appE_6, ↓Mir.s_ext6, ↓Mir.extE_6, ↓Mir.setE_6, ↓Mir.s_app7, ↓Mir.appE_7, ↓Mir.s_ext7, ↓Mir.extE_7, ↓Mir.setE_7, ↓Mir.s_app8, ↓Mir.appE_8, ↓Mir.s_ext8, ↓Mir.extE_8, ↓Mir.setE_8, ↓Mir.s_app9, ↓Mir.appE_9, ↓Mir.s_ext9, ↓Mir.extE_9, ↓Mir.setE_9, ↓Mir.s_app10, ↓Mir.appE_10, ↓Mir.s_ext10, ↓Mir.extE_10, ↓Mir.setE_10, ↓Mir.s_app11, ↓Mir.appE_11, ↓Mir.s_ext11, ↓Mir.extE_11, ↓Mir.setE_11, ↓Mir.s_app12, ↓Mir.appE_12, ↓Mir.s_ext12, ↓Mir.extE_12, ↓Mir.setE_12, ↓Mir.s_app13, ↓Mir.appE_13, ↓Mir.s_ext13, ↓Mir.extE_13, ↓Mir.setE_13, ↓Mir.s_app14, ↓Mir.appE_14, ↓Mir.s_ext14, ↓Mir.extE_14, ↓Mir.setE_14, ↓Mir.s_app15, ↓Mir.appE_15, ↓Mir.s_ext15, ↓Mir.extE_15, ↓Mir.setE_15, ↓Mir.s_app16, ↓Mir.appE_16, ↓Mir.s_ext16, ↓Mir.extE_16, ↓Mir.setE_16, ↓Mir.s_app17, ↓Mir.appE_17, ↓Mir.s_ext17, ↓Mir.extE_17, ↓Mir.setE_17, ↓Mir.s_app18, ↓Mir.appE_18, ↓Mir.s_ext18, ↓Mir.extE_18, ↓Mir.setE_18, ↓Mir.s_app19, ↓Mir.appE_19, ↓Mir.s_ext19, ↓Mir.extE_19, ↓Mir.setE_19, ↓Mir.s_app20, ↓Mir.appE_20, ↓Mir.s_ext20, ↓Mir.extE_20, ↓Mir.setE_20, ↓Mir.s_app21, ↓Mir.appE_21, ↓Mir.s_ext21, ↓Mir.extE_21, ↓Mir.setE_21, ↓Mir.s_app22, ↓Mir.appE_22, ↓Mir.s_ext22, ↓Mir.extE_22, ↓Mir.setE_22, ↓Mir.s_app23, ↓Mir.appE_23, ↓Mir.s_ext23, ↓Mir.extE_23, ↓Mir.setE_23, ↓Mir.s_app24, ↓Mir.appE_24, ↓Mir.s_ext24, ↓Mir.extE_24, ↓Mir.setE_24, ↓Mir.s_app25, ↓Mir.appE_25, ↓Mir.s_ext25, ↓Mir.extE_25, ↓Mir.setE_25, ↓Mir.ifS_not, ↓Mir.ifS_pos, ↓Mir.ifS_neg, ↓Mir.ifB_not, ↓Mir.ifB_pos, ↓Mir.ifB_neg, ↓Mir.turnC_eq, ↓Mir.shNs_nil, ↓Mir.shNs_cons, ↓Mir.shN1_ok, Mir.shN1_none, Mir.shN1_sh, Mir.wipe_nil, Mir.wipe_cons, Mir.back_nil, Mir.back_cons, List.set_cons_zero, List.set_cons_succ, List.getD_cons_zero, List.getD_cons_succ, List.map_cons, List.map_nil, ↓Mir.limK_le, ↓Mir.inRK_ok, ↓Mir.okK_ok, ↓Mir.appK_ok, ↓Mir.extK_ok, ↓Mir.finK_ret, ↓Mir.finK_next, ↓Mir.finK_for, ↓Mir.finK_while, ↓Mir.finK_comp, ↓Mir.finK_ifB, ↓Mir.finK_ifS, Mir.app_nil, Mir.app_cons, Mir.flK_next, Mir.flK_ret, Mir.flK_brk, Option.bind_none, decide_true, decide_false, Bool.not_true, Bool.not_false, Mir.pv_sh, Mir.pv_own, List.cons_append, List.nil_append, Mir.okK_ok, Int.reducePow, Int.reduceToNat, Int.reduceMul, Int.reduceAdd, Int.reduceSub, Int.reduceNeg, Nat.reducePow, Nat.reduceMul, Nat.reduceAdd, Nat.reduceSub, Int.one_mul, Int.zero_add, Int.zero_mul, ↓Mir.atI_nat, Int.toNat_natCast])
theorem program_ex (ns : List Int) (rest : Int) (bells : Nat) (n : Nat) (hn : 5 ≤ n) (hr : 1 ≤ rest) (hr' : rest ≤ 1000) (hb : bells ≤ 6) :
    ∃ (B : List Bx) (R : List Rw), goodB B ∧ goodR B rest bells R ∧ R.length = bells + 1 ∧ fns P n 13 [.lst (ns.map PV.int), .int bells, .int 4, .int rest] = some (.sh (.tup [.tup (B.map fun b => PV.tup [.str b.1, .tup (b.2.map PV.int)]), .tup (R.map fun w => PV.tup [.str w.1, .int w.2.1, .tup (w.2.2.map fun q => PV.tup [q.1.pv, .int q.2])])])) := by
  obtain ⟨n, rfl⟩ : ∃ j, n = j + 1 := ⟨n - 1, by omega⟩
  obtain ⟨B, hB, hBe⟩ := boxes_ex ns n (by omega)
  obtain ⟨L0, g0, l0, l1, hL0⟩ := row_ex ns 20 rest B hB bells 4 n (by omega) (by decide) (by decide) hr hr' hb (by decide) (by decide)
  refine ⟨B, ?_⟩
  rw [r13, b13]
  walk_at "pg"
  rw [hBe, Option.bind_some]
  walk_at "pg"
  rw [hL0, Option.bind_some]
  walk_at "pg"
  refine for_range_any (fun X : Option Sl => ∃ R : List Rw, goodB B ∧ goodR B rest bells R ∧ R.length = bells + 1 ∧ X = some (Sl.sh (.tup [.tup (B.map fun b => PV.tup [.str b.1, .tup (b.2.map PV.int)]), .tup (R.map fun w => PV.tup [.str w.1, .int w.2.1, .tup (w.2.2.map fun q => PV.tup [q.1.pv, .int q.2])])]))) bells (fun (k : Nat) => .int (k : Int))
    (fun i e => ∃ R : List Rw, R.length = i + 1 ∧ goodR B rest bells R ∧ ∃ j6 j7 j8, e = [some (.sh (.lst (ns.map PV.int))), some (.sh (.int bells)), some (.sh (.int 4)), some (.sh (.int rest)), some (.sh (.tup (B.map fun b => PV.tup [.str b.1, .tup (b.2.map PV.int)]))), some (.own (R.map fun w => PV.tup [.str w.1, .int w.2.1, .tup (w.2.2.map fun q => PV.tup [q.1.pv, .int q.2])])), j6, j7, j8]) (rangeL_zero _) ⟨[(Str.ofString "main", 0, L0)], rfl, ?_, _, _, _, rfl⟩ ?_ ?_
  · intro w hw
    rw [List.mem_singleton.mp hw]
    exact ⟨g0, l0, by show L0.length ≤ 4; omega, by show (0 : Int) ≤ 0; decide, by show (0 : Int) ≤ 9; decide⟩
  · rintro i e hi ⟨R, hL, hg, j6, j7, j8, rfl⟩
    have hlen : (R.map fun w => PV.tup [.str w.1, .int w.2.1, .tup (w.2.2.map fun q => PV.tup [q.1.pv, .int q.2])]).length < 16777216 := by rw [List.length_map]; omega
    have hi6 : i < 6 := by omega
    have u0 := Int.fmod_nonneg_of_pos (mx ns (20 + 35 * ((i : Int) + 1) + 2)) (b := 2) (by decide)
    have u1 := Int.fmod_lt_of_pos (mx ns (20 + 35 * ((i : Int) + 1) + 2)) (b := 2) (by decide)
    obtain ⟨v, hv⟩ : ∃ v : Int, v = if (mx ns (20 + 35 * ((i : Int) + 1) + 2)).fmod 2 = 0 then 3 else 9 := ⟨_, rfl⟩
    have v0 : 3 ≤ v ∧ v ≤ 9 := by rw [hv]; split <;> omega
    have z0 := Int.fmod_nonneg_of_pos (mx ns (20 + 35 * ((i : Int) + 1) + 1)) (b := v) (by omega)
    have z1 := Int.fmod_lt_of_pos (mx ns (20 + 35 * ((i : Int) + 1) + 1)) (b := v) (by omega)
    obtain ⟨L1, g1, m0, m1, hL1⟩ := row_ex ns (20 + 35 * ((i : Int) + 1)) rest B hB bells 4 n (by omega) (by omega) (by omega) hr hr' hb (by decide) (by decide)
    have w9 : (1 : Int) + (mx ns (20 + 35 * ((i : Int) + 1) + 1)).fmod v ≤ 9 := by omega
    rw [hv] at z0 z1 w9 v0
    walk_at "pg"
    rw [hL1, Option.bind_some]
    walk_at "pg"
    refine ⟨_, rfl, R ++ [(chr "pqrstu" i, 1 + (mx ns (20 + 35 * ((i : Int) + 1) + 1)).fmod (if (mx ns (20 + 35 * ((i : Int) + 1) + 2)).fmod 2 = 0 then 3 else 9), L1)], by rw [List.length_append, hL]; rfl, fun w hw => ?_, ?_⟩
    · rcases List.mem_append.mp hw with hw | hw
      · exact hg w hw
      · rw [List.mem_singleton.mp hw]
        exact ⟨g1, m0, by show L1.length ≤ 4; omega, by show (0 : Int) ≤ 1 + _; omega, w9⟩
    rw [List.map_append]
    exact ⟨_, _, _, rfl⟩
  · rintro e ⟨R, hL, hg, j6, j7, j8, rfl⟩
    refine ⟨R, hB, hg, by omega, ?_⟩
    walk_at "pg"
/-! states -/
theorem pow_small {z : Nat} (h : z ≤ 6) : (0 : Int) < 2 ^ z ∧ (2 : Int) ^ z ≤ 64 := by
  have : z = 0 ∨ z = 1 ∨ z = 2 ∨ z = 3 ∨ z = 4 ∨ z = 5 ∨ z = 6 := by omega
  rcases this with rfl | rfl | rfl | rfl | rfl | rfl | rfl <;> decide
theorem div_zero (w : Int) (z : Nat) : (w.fdiv (2 ^ z)).fmod 2 = 0 ↔ w / 2 ^ z % 2 = 0 := by
  have := Int.pow_pos (n := 2) (m := z) (by decide)
  rw [Int.fdiv_eq_ediv_of_nonneg _ (by omega), Int.fmod_eq_emod_of_nonneg _ (by decide)]
abbrev progpv (B : List Bx) (R : List Rw) : PV := .tup [.tup (B.map fun b => PV.tup [.str b.1, .tup (b.2.map PV.int)]), .tup (R.map fun w => PV.tup [.str w.1, .int w.2.1, .tup (w.2.2.map fun q => PV.tup [q.1.pv, .int q.2])])]
theorem rw_at {R : List Rw} {i : Nat} {γ : Type} {k : PV → Option γ} (h : i < R.length) : (atI (R.map fun w => PV.tup [.str w.1, .int w.2.1, .tup (w.2.2.map fun q => PV.tup [q.1.pv, .int q.2])]) (i : Int)).bind k = k (.tup [.str (R.getD i r0w).1, .int (R.getD i r0w).2.1, .tup ((R.getD i r0w).2.2.map fun q => PV.tup [q.1.pv, .int q.2])]) := atI_get (fun w : Rw => PV.tup [.str w.1, .int w.2.1, .tup (w.2.2.map fun q => PV.tup [q.1.pv, .int q.2])]) r0w h
def q0 : Dd × Int := (.still 1, 0)
theorem pl_at {L : List (Dd × Int)} {i : Nat} {γ : Type} {k : PV → Option γ} (h : i < L.length) : (atI (L.map fun q => PV.tup [q.1.pv, .int q.2]) (i : Int)).bind k = k (.tup [(L.getD i q0).1.pv, .int (L.getD i q0).2]) := atI_get (fun q : Dd × Int => PV.tup [q.1.pv, .int q.2]) q0 h
/-- a frame: row, place, turn, hand -/
structure Fr where
  row : Nat
  place : Nat
  turn : Nat
  hand : List Int
def f0r : Fr := ⟨0, 0, 0, []⟩
theorem fr_last {L : List Fr} {γ : Type} {k : PV → Option γ} (h : 0 < L.length) : (atI (L.map fun f => PV.tup [.int (f.row : Int), .int (f.place : Int), .int (f.turn : Int), .tup (f.hand.map PV.int)]) (-1)).bind k = k (.tup [.int ((L.getD (L.length - 1) f0r).row : Int), .int ((L.getD (L.length - 1) f0r).place : Int), .int ((L.getD (L.length - 1) f0r).turn : Int), .tup ((L.getD (L.length - 1) f0r).hand.map PV.int)]) := by
  have e : atI (L.map fun f => PV.tup [.int (f.row : Int), .int (f.place : Int), .int (f.turn : Int), .tup (f.hand.map PV.int)]) (-1) = atI (L.map fun f => PV.tup [.int (f.row : Int), .int (f.place : Int), .int (f.turn : Int), .tup (f.hand.map PV.int)]) ((L.length - 1 : Nat) : Int) := by
    unfold atI ixN
    rw [if_neg (by decide), List.length_map, if_pos (by omega), if_pos (by omega), if_pos (by omega)]
    congr 2
    omega
  rw [e]
  exact atI_get (fun f : Fr => PV.tup [.int (f.row : Int), .int (f.place : Int), .int (f.turn : Int), .tup (f.hand.map PV.int)]) f0r (by omega)
def places (R : List Rw) (r : Nat) : List (Dd × Int) := (R.getD r r0w).2.2
def rank (R : List Rw) (r : Nat) : Int := (R.getD r r0w).2.1
def wordAt (R : List Rw) (r p : Nat) : Int := if p = (places R r).length then 0 else ((places R r).getD p q0).2
local macro_rules | `(tactic| walk_at "st") => `(tactic| simp (maxSteps := 4000000) (disch := first | omega | assumption | ((try simp only [List.length_cons, List.length_nil, List.length_append, List.length_map, List.length_range]); omega) | decide) only [↓rw_at, ↓pl_at, ↓Mir.k_non, ↓Mir.k_bl, ↓Mir.k_int, ↓Mir.k_str, ↓Mir.k_glob, ↓Mir.k_var_sh0, ↓Mir.k_var_own0, ↓Mir.k_var_sh1, ↓Mir.k_var_own1, ↓Mir.k_var_sh2, ↓Mir.k_var_own2, ↓Mir.k_var_sh3, ↓Mir.k_var_own3, ↓Mir.k_var_sh4, ↓Mir.k_var_own4, ↓Mir.k_var_sh5, ↓Mir.k_var_own5, ↓Mir.k_var_sh6, ↓Mir.k_var_own6, ↓Mir.k_var_sh7, ↓Mir.k_var_own7, ↓Mir.k_var_sh8, ↓Mir.k_var_own8, ↓Mir.k_var_sh9, ↓Mir.k_var_own9, ↓Mir.k_var_sh10, ↓Mir.k_var_own10, ↓Mir.k_var_sh11, ↓Mir.k_var_own11, ↓Mir.k_var_sh12, ↓Mir.k_var_own12, ↓Mir.k_var_sh13, ↓Mir.k_var_own13, ↓Mir.k_var_sh14, ↓Mir.k_var_own14, ↓Mir.k_var_sh15, ↓Mir.k_var_own15, ↓Mir.k_var_sh16, ↓Mir.k_var_own16, ↓Mir.k_var_sh17, ↓Mir.k_var_own17, ↓Mir.k_var_sh18, ↓Mir.k_var_own18, ↓Mir.k_var_sh19, ↓Mir.k_var_own19, ↓Mir.k_var_sh20, ↓Mir.k_var_own20, ↓Mir.k_var_sh21, ↓Mir.k_var_own21, ↓Mir.k_var_sh22, ↓Mir.k_var_own22, ↓Mir.k_var_sh23, ↓Mir.k_var_own23, ↓Mir.k_var_sh24, ↓Mir.k_var_own24, ↓Mir.k_var_sh25, ↓Mir.k_var_own25, ↓Mir.k_bin, ↓Mir.k_cmp, ↓Mir.ifB_t, ↓Mir.ifB_f, ↓Mir.k_chain, ↓Mir.boolK_bl, ↓Mir.intK_int, ↓Mir.k_and, ↓Mir.k_or, ↓Mir.k_not, ↓Mir.k_neg, ↓Mir.k_inv, ↓Mir.k_ife, ↓Mir.k_ix, ↓Mir.k_slc, ↓Mir.k_tup, ↓Mir.k_lst, ↓Mir.k_call, ↓Mir.callK_1, ↓Mir.callK_2, ↓Mir.callK_3, ↓Mir.callK_4, ↓Mir.callK_5, ↓Mir.callK_6, ↓Mir.callK_7, ↓Mir.callK_8, ↓Mir.callK_Int, ↓Mir.callK_Bool, ↓Mir.callK_Str, ↓Mir.callK_non, ↓Mir.k_blt, ↓Mir.k_isi, ↓Mir.k_meth, ↓Mir.k_comp, ↓Mir.k_no, ↓Mir.k_some, ↓Mir.k_yes, ↓Mir.k_on, ↓Mir.k_nil, ↓Mir.k_cons, ↓Mir.t_val, ↓Mir.t_cmp, ↓Mir.t_chain, ↓Mir.t_and, ↓Mir.t_or, ↓Mir.t_not, ↓Mir.i_val, ↓Mir.i_range1, ↓Mir.i_range2, ↓Mir.lstK_lst, ↓Mir.i_enum, ↓Mir.seqK_lst, ↓Mir.seqK_tup, ↓Mir.i_rev, ↓Mir.i_zip, ↓Mir.p_sh, ↓Mir.p_own, ↓Mir.ps_nil, ↓Mir.ps_cons, ↓Mir.f_sh, ↓Mir.f_own, ↓Mir.fs_nil, ↓Mir.fs_cons, ↓Mir.fo_t, ↓Mir.p_b_own0, ↓Mir.p_b_sh0, ↓Mir.f_b0, ↓Mir.fo_b0, ↓Mir.p_b_own1, ↓Mir.p_b_sh1, ↓Mir.f_b1, ↓Mir.fo_b1, ↓Mir.p_b_own2, ↓Mir.p_b_sh2, ↓Mir.f_b2, ↓Mir.fo_b2, ↓Mir.p_b_own3, ↓Mir.p_b_sh3, ↓Mir.f_b3, ↓Mir.fo_b3, ↓Mir.p_b_own4, ↓Mir.p_b_sh4, ↓Mir.f_b4, ↓Mir.fo_b4, ↓Mir.p_b_own5, ↓Mir.p_b_sh5, ↓Mir.f_b5, ↓Mir.fo_b5, ↓Mir.p_b_own6, ↓Mir.p_b_sh6, ↓Mir.f_b6, ↓Mir.fo_b6, ↓Mir.p_b_own7, ↓Mir.p_b_sh7, ↓Mir.f_b7, ↓Mir.fo_b7, ↓Mir.p_b_own8, ↓Mir.p_b_sh8, ↓Mir.f_b8, ↓Mir.fo_b8, ↓Mir.p_b_own9, ↓Mir.p_b_sh9, ↓Mir.f_b9, ↓Mir.fo_b9, ↓Mir.p_b_own10, ↓Mir.p_b_sh10, ↓Mir.f_b10, ↓Mir.fo_b10, ↓Mir.p_b_own11, ↓Mir.p_b_sh11, ↓Mir.f_b11, ↓Mir.fo_b11, ↓Mir.p_b_own12, ↓Mir.p_b_sh12, ↓Mir.f_b12, ↓Mir.fo_b12, ↓Mir.p_b_own13, ↓Mir.p_b_sh13, ↓Mir.f_b13, ↓Mir.fo_b13, ↓Mir.p_b_own14, ↓Mir.p_b_sh14, ↓Mir.f_b14, ↓Mir.fo_b14, ↓Mir.p_b_own15, ↓Mir.p_b_sh15, ↓Mir.f_b15, ↓Mir.fo_b15, ↓Mir.p_b_own16, ↓Mir.p_b_sh16, ↓Mir.f_b16, ↓Mir.fo_b16, ↓Mir.p_b_own17, ↓Mir.p_b_sh17, ↓Mir.f_b17, ↓Mir.fo_b17, ↓Mir.p_b_own18, ↓Mir.p_b_sh18, ↓Mir.f_b18, ↓Mir.fo_b18, ↓Mir.p_b_own19, ↓Mir.p_b_sh19, ↓Mir.f_b19, ↓Mir.fo_b19, ↓Mir.p_b_own20, ↓Mir.p_b_sh20, ↓Mir.f_b20, ↓Mir.fo_b20, ↓Mir.p_b_own21, ↓Mir.p_b_sh21, ↓Mir.f_b21, ↓Mir.fo_b21, ↓Mir.p_b_own22, ↓Mir.p_b_sh22, ↓Mir.f_b22, ↓Mir.fo_b22, ↓Mir.p_b_own23, ↓Mir.p_b_sh23, ↓Mir.f_b23, ↓Mir.fo_b23, ↓Mir.p_b_own24, ↓Mir.p_b_sh24, ↓Mir.f_b24, ↓Mir.fo_b24, ↓Mir.p_b_own25, ↓Mir.p_b_sh25, ↓Mir.f_b25, ↓Mir.fo_b25, ↓Mir.pv_sh, ↓Mir.pv_own, ↓Mir.bt_name0, ↓Mir.sa_0, ↓Mir.bt_name1, ↓Mir.sa_1, ↓Mir.bt_name2, ↓Mir.sa_2, ↓Mir.bt_name3, ↓Mir.sa_3, ↓Mir.bt_name4, ↓Mir.sa_4, ↓Mir.bt_name5, ↓Mir.sa_5, ↓Mir.bt_name6, ↓Mir.sa_6, ↓Mir.bt_name7, ↓Mir.sa_7, ↓Mir.bt_name8, ↓Mir.sa_8, ↓Mir.bt_name9, ↓Mir.sa_9, ↓Mir.bt_name10, ↓Mir.sa_10, ↓Mir.bt_name11, ↓Mir.sa_11, ↓Mir.bt_name12, ↓Mir.sa_12, ↓Mir.bt_name13, ↓Mir.sa_13, ↓Mir.bt_name14, ↓Mir.sa_14, ↓Mir.bt_name15, ↓Mir.sa_15, ↓Mir.bt_name16, ↓Mir.sa_16, ↓Mir.bt_name17, ↓Mir.sa_17, ↓Mir.bt_name18, ↓Mir.sa_18, ↓Mir.bt_name19, ↓Mir.sa_19, ↓Mir.bt_name20, ↓Mir.sa_20, ↓Mir.bt_name21, ↓Mir.sa_21, ↓Mir.bt_name22, ↓Mir.sa_22, ↓Mir.bt_name23, ↓Mir.sa_23, ↓Mir.bt_name24, ↓Mir.sa_24, ↓Mir.bt_name25, ↓Mir.sa_25, ↓Mir.sa_end, ↓Mir.bt_tup, ↓Mir.b_Add, ↓Mir.b_Sub, ↓Mir.b_BitAnd, ↓Mir.b_BitOr, ↓Mir.b_BitXor, ↓Mir.b_Mult, ↓Mir.b_Mod, ↓Mir.b_FloorDiv, ↓Mir.b_Pow, ↓Mir.b_LShift, ↓Mir.b_RShift, ↓Mir.b_Add_str, ↓Mir.b_Add_lst, ↓Mir.b_Add_tup, ↓Mir.c_Lt, ↓Mir.c_LtE, ↓Mir.c_Gt, ↓Mir.c_GtE, ↓Mir.c_Eq, ↓Mir.c_NotEq, ↓Mir.c_Eq_str, ↓Mir.c_NotEq_str, ↓Mir.c_Eq_bl, ↓Mir.c_NotEq_bl, ↓Mir.c_Eq_int_str, ↓Mir.c_NotEq_int_str, ↓Mir.c_Eq_str_int, ↓Mir.c_NotEq_str_int, ↓Mir.c_Eq_bl_str, ↓Mir.c_NotEq_bl_str, ↓Mir.c_Eq_str_bl, ↓Mir.c_NotEq_str_bl, ↓Mir.c_Eq_int_non, ↓Mir.c_NotEq_int_non, ↓Mir.c_Eq_str_non, ↓Mir.c_NotEq_str_non, ↓Mir.c_Eq_bl_non, ↓Mir.c_NotEq_bl_non, ↓Mir.c_Is_int, ↓Mir.c_IsNot_int, ↓Mir.c_Is_str, ↓Mir.c_IsNot_str, ↓Mir.c_Is_bl, ↓Mir.c_IsNot_bl, ↓Mir.c_Is_tup, ↓Mir.c_IsNot_tup, ↓Mir.c_Is_lst, ↓Mir.c_IsNot_lst, ↓Mir.c_Is_non, ↓Mir.c_IsNot_non, ↓Mir.c_In, ↓Mir.c_NotIn, ↓Mir.tr_bl, ↓Mir.tr_int, ↓Mir.tr_lst, ↓Mir.tr_tup, ↓Mir.tr_non, ↓Mir.x_lst, ↓Mir.x_tup, ↓Mir.at_0, ↓Mir.at_1, ↓Mir.at_2, ↓Mir.at_3, ↓Mir.at_4, ↓Mir.at_5, ↓Mir.at_6, ↓Mir.at_7, ↓Mir.sl_lst, ↓Mir.sl_tup, ↓Mir.bl_len_lst, ↓Mir.bl_len_tup, ↓Mir.bl_abs, ↓Mir.bl_max, ↓Mir.bl_min, ↓Mir.bl_int_int, ↓Mir.bl_int_bl, ↓Mir.bl_list_lst, ↓Mir.bl_list_tup, ↓Mir.bl_tuple_lst, ↓Mir.bl_tuple_tup, ↓Mir.bl_sum, ↓Mir.bl_all, ↓Mir.bl_any, ↓Mir.bl_sorted, ↓Mir.as_ints, ↓Mir.as_bls, ↓Mir.as_strs, ↓Mir.is_non_tuple, ↓Mir.is_non_list, ↓Mir.is_non_bool, ↓Mir.is_non_int, ↓Mir.is_non_str, ↓Mir.is_bl_tuple, ↓Mir.is_bl_list, ↓Mir.is_bl_bool, ↓Mir.is_bl_int, ↓Mir.is_bl_str, ↓Mir.is_int_tuple, ↓Mir.is_int_list, ↓Mir.is_int_bool, ↓Mir.is_int_int, ↓Mir.is_int_str, ↓Mir.is_str_tuple, ↓Mir.is_str_list, ↓Mir.is_str_bool, ↓Mir.is_str_int, ↓Mir.is_str_str, ↓Mir.is_lst_tuple, ↓Mir.is_lst_list, ↓Mir.is_lst_bool, ↓Mir.is_lst_int, ↓Mir.is_lst_str, ↓Mir.is_tup_tuple, ↓Mir.is_tup_list, ↓Mir.is_tup_bool, ↓Mir.is_tup_int, ↓Mir.is_tup_str, ↓Mir.it_lst, ↓Mir.it_tup, ↓Mir.z_lst, ↓Mir.z_tup, ↓Mir.s_nil, ↓Mir.s_set, ↓Mir.s_expr, ↓Mir.s_ret, ↓Mir.s_retN, ↓Mir.s_pass, ↓Mir.s_brk, ↓Mir.ifS_t, ↓Mir.ifS_f, ↓Mir.s_if, ↓Mir.s_for, ↓Mir.s_while, ↓Mir.s_app0, ↓Mir.appE_0, ↓Mir.s_ext0, ↓Mir.extE_0, ↓Mir.setE_0, ↓Mir.s_app1, ↓Mir.appE_1, ↓Mir.s_ext1, ↓Mir.extE_1, ↓Mir.setE_1, ↓Mir.s_app2, ↓Mir.appE_2, ↓Mir.s_ext2, ↓Mir.extE_2, ↓Mir.setE_2, ↓Mir.s_app3, ↓Mir.appE_3, ↓Mir.s_ext3, ↓Mir.extE_3, ↓Mir.setE_3, ↓Mir.s_app4, ↓Mir.appE_4, ↓Mir.s_ext4, ↓Mir.extE_4, ↓Mir.setE_4, ↓Mir.s_app5, ↓Mir.appE_5, ↓Mir.s_ext5, ↓Mir.extE_5, ↓Mir.setE_5, ↓Mir.s_app6, ↓Mir.appE_6, ↓Mir.s_ext6, ↓Mir.extE_6, ↓Mir.setE_6, ↓Mir.s_app7, ↓Mir.appE_7, ↓Mir.s_ext7, ↓Mir.extE_7, ↓Mir.setE_7, ↓Mir.s_app8, ↓Mir.appE_8, ↓Mir.s_ext8, ↓Mir.extE_8, ↓Mir.setE_8, ↓Mir.s_app9, ↓Mir.appE_9, ↓Mir.s_ext9, ↓Mir.extE_9, ↓Mir.setE_9, ↓Mir.s_app10, ↓Mir.appE_10, ↓Mir.s_ext10, ↓Mir.extE_10, ↓Mir.setE_10, ↓Mir.s_app11, ↓Mir.appE_11, ↓Mir.s_ext11, ↓Mir.extE_11, ↓Mir.setE_11, ↓Mir.s_app12, ↓Mir.appE_12, ↓Mir.s_ext12, ↓Mir.extE_12, ↓Mir.setE_12, ↓Mir.s_app13, ↓Mir.appE_13, ↓Mir.s_ext13, ↓Mir.extE_13, ↓Mir.setE_13, ↓Mir.s_app14, ↓Mir.appE_14, ↓Mir.s_ext14, ↓Mir.extE_14, ↓Mir.setE_14, ↓Mir.s_app15, ↓Mir.appE_15, ↓Mir.s_ext15, ↓Mir.extE_15, ↓Mir.setE_15, ↓Mir.s_app16, ↓Mir.appE_16, ↓Mir.s_ext16, ↓Mir.extE_16, ↓Mir.setE_16, ↓Mir.s_app17, ↓Mir.appE_17, ↓Mir.s_ext17, ↓Mir.extE_17, ↓Mir.setE_17, ↓Mir.s_app18, ↓Mir.appE_18, ↓Mir.s_ext18, ↓Mir.extE_18, ↓Mir.setE_18, ↓Mir.s_app19, ↓Mir.appE_19, ↓Mir.s_ext19, ↓Mir.extE_19, ↓Mir.setE_19, ↓Mir.s_app20, ↓Mir.appE_20, ↓Mir.s_ext20, ↓Mir.extE_20, ↓Mir.setE_20, ↓Mir.s_app21, ↓Mir.appE_21, ↓Mir.s_ext21, ↓Mir.extE_21, ↓Mir.setE_21, ↓Mir.s_app22, ↓Mir.appE_22, ↓Mir.s_ext22, ↓Mir.extE_22, ↓Mir.setE_22, ↓Mir.s_app23, ↓Mir.appE_23, ↓Mir.s_ext23, ↓Mir.extE_23, ↓Mir.setE_23, ↓Mir.s_app24, ↓Mir.appE_24, ↓Mir.s_ext24, ↓Mir.extE_24, ↓Mir.setE_24, ↓Mir.s_app25, ↓Mir.appE_25, ↓Mir.s_ext25, ↓Mir.extE_25, ↓Mir.setE_25, ↓Mir.ifS_not, ↓Mir.ifS_pos, ↓Mir.ifS_neg, ↓Mir.ifB_not, ↓Mir.ifB_pos, ↓Mir.ifB_neg, ↓Mir.turnC_eq, ↓Mir.shNs_nil, ↓Mir.shNs_cons, ↓Mir.shN1_ok, Mir.shN1_none, Mir.shN1_sh, Mir.wipe_nil, Mir.wipe_cons, Mir.back_nil, Mir.back_cons, List.set_cons_zero, List.set_cons_succ, List.getD_cons_zero, List.getD_cons_succ, List.map_cons, List.map_nil, ↓Mir.limK_le, ↓Mir.inRK_ok, ↓Mir.okK_ok, ↓Mir.appK_ok, ↓Mir.extK_ok, ↓Mir.finK_ret, ↓Mir.finK_next, ↓Mir.finK_for, ↓Mir.finK_while, ↓Mir.finK_comp, ↓Mir.finK_ifB, ↓Mir.finK_ifS, Mir.app_nil, Mir.app_cons, Mir.flK_next, Mir.flK_ret, Mir.flK_brk, Option.bind_none, decide_true, decide_false, Bool.not_true, Bool.not_false, Mir.pv_sh, Mir.pv_own, List.cons_append, List.nil_append, Mir.okK_ok, Int.reducePow, Int.reduceToNat, Int.reduceMul, Int.reduceAdd, Int.reduceSub, Int.reduceNeg, Nat.reducePow, Nat.reduceMul, Nat.reduceAdd, Nat.reduceSub, Int.one_mul, Int.zero_add, Int.zero_mul, ↓Mir.atI_nat, Int.toNat_natCast])
theorem word_k (B : List Bx) (R : List Rw) (r p : Nat) {n : Nat} {γ : Type} {c : Sl → Option γ} (hn : 1 ≤ n) (hr : r < R.length) (hp : p ≤ (R.getD r r0w).2.2.length) : (fns P n 1 [progpv B R, .int r, .int p]).bind c = c (.sh (.int (wordAt R r p))) := by
  obtain ⟨n, rfl⟩ : ∃ j, n = j + 1 := ⟨n - 1, by omega⟩
  have e : fns P (n + 1) 1 [progpv B R, .int r, .int p] = some (.sh (.int (wordAt R r p))) := by
    rw [r1, b1]
    unfold wordAt places
    by_cases q : p = (R.getD r r0w).2.2.length
    · rw [if_pos q]
      walk_at "st"
    · rw [if_neg q]
      have q' : p < (R.getD r r0w).2.2.length := by omega
      walk_at "st"
  rw [e]; rfl
theorem lword_k (B : List Bx) (R : List Rw) (r p : Nat) (x y : PV) {n : Nat} {γ : Type} {c : Sl → Option γ} (hn : 1 ≤ n) (hr : r < R.length) (hp : p ≤ (R.getD r r0w).2.2.length) : (fns P n 14 [progpv B R, .tup [.int r, .int p, x, y]]).bind c = c (.sh (.int (wordAt R r p))) := by
  obtain ⟨n, rfl⟩ : ∃ j, n = j + 1 := ⟨n - 1, by omega⟩
  have e : fns P (n + 1) 14 [progpv B R, .tup [.int r, .int p, x, y]] = some (.sh (.int (wordAt R r p))) := by
    rw [r14, b14]
    unfold wordAt places
    by_cases q : p = (R.getD r r0w).2.2.length
    · rw [if_pos q]
      walk_at "st"
    · rw [if_neg q]
      have q' : p < (R.getD r r0w).2.2.length := by omega
      walk_at "st"
  rw [e]; rfl
def shutBy (R : List Rw) (L : List Fr) : Int := L.foldl (fun s f => Builtin.bitOr s (wordAt R f.row f.place)) 0
/-- a pile that fits the program -/
def goodF (R : List Rw) (L : List Fr) : Prop := 0 < L.length ∧ L.length ≤ 1000 ∧ ∀ f ∈ L, f.row < R.length ∧ f.place ≤ (R.getD f.row r0w).2.2.length
local macro_rules | `(tactic| walk_at "st2") => `(tactic| simp (maxSteps := 4000000) (disch := first | omega | assumption | ((try simp only [List.length_cons, List.length_nil, List.length_append, List.length_map, List.length_range]); omega) | decide) only [↓rw_at, ↓pl_at, ↓word_k, ↓lword_k, ↓fr_last, ↓Mir.k_non, ↓Mir.k_bl, ↓Mir.k_int, ↓Mir.k_str, ↓Mir.k_glob, ↓Mir.k_var_sh0, ↓Mir.k_var_own0, ↓Mir.k_var_sh1, ↓Mir.k_var_own1, ↓Mir.k_var_sh2, ↓Mir.k_var_own2, ↓Mir.k_var_sh3, ↓Mir.k_var_own3, ↓Mir.k_var_sh4, ↓Mir.k_var_own4, ↓Mir.k_var_sh5, ↓Mir.k_var_own5, ↓Mir.k_var_sh6, ↓Mir.k_var_own6, ↓Mir.k_var_sh7, ↓Mir.k_var_own7, ↓Mir.k_var_sh8, ↓Mir.k_var_own8, ↓Mir.k_var_sh9, ↓Mir.k_var_own9, ↓Mir.k_var_sh10, ↓Mir.k_var_own10, ↓Mir.k_var_sh11, ↓Mir.k_var_own11, ↓Mir.k_var_sh12, ↓Mir.k_var_own12, ↓Mir.k_var_sh13, ↓Mir.k_var_own13, ↓Mir.k_var_sh14, ↓Mir.k_var_own14, ↓Mir.k_var_sh15, ↓Mir.k_var_own15, ↓Mir.k_var_sh16, ↓Mir.k_var_own16, ↓Mir.k_var_sh17, ↓Mir.k_var_own17, ↓Mir.k_var_sh18, ↓Mir.k_var_own18, ↓Mir.k_var_sh19, ↓Mir.k_var_own19, ↓Mir.k_var_sh20, ↓Mir.k_var_own20, ↓Mir.k_var_sh21, ↓Mir.k_var_own21, ↓Mir.k_var_sh22, ↓Mir.k_var_own22, ↓Mir.k_var_sh23, ↓Mir.k_var_own23, ↓Mir.k_var_sh24, ↓Mir.k_var_own24, ↓Mir.k_var_sh25, ↓Mir.k_var_own25, ↓Mir.k_bin, ↓Mir.k_cmp, ↓Mir.ifB_t, ↓Mir.ifB_f, ↓Mir.k_chain, ↓Mir.boolK_bl, ↓Mir.intK_int, ↓Mir.k_and, ↓Mir.k_or, ↓Mir.k_not, ↓Mir.k_neg, ↓Mir.k_inv, ↓Mir.k_ife, ↓Mir.k_ix, ↓Mir.k_slc, ↓Mir.k_tup, ↓Mir.k_lst, ↓Mir.k_call, ↓Mir.callK_1, ↓Mir.callK_2, ↓Mir.callK_3, ↓Mir.callK_4, ↓Mir.callK_5, ↓Mir.callK_6, ↓Mir.callK_7, ↓Mir.callK_8, ↓Mir.callK_Int, ↓Mir.callK_Bool, ↓Mir.callK_Str, ↓Mir.callK_non, ↓Mir.k_blt, ↓Mir.k_isi, ↓Mir.k_meth, ↓Mir.k_comp, ↓Mir.k_no, ↓Mir.k_some, ↓Mir.k_yes, ↓Mir.k_on, ↓Mir.k_nil, ↓Mir.k_cons, ↓Mir.t_val, ↓Mir.t_cmp, ↓Mir.t_chain, ↓Mir.t_and, ↓Mir.t_or, ↓Mir.t_not, ↓Mir.i_val, ↓Mir.i_range1, ↓Mir.i_range2, ↓Mir.lstK_lst, ↓Mir.i_enum, ↓Mir.seqK_lst, ↓Mir.seqK_tup, ↓Mir.i_rev, ↓Mir.i_zip, ↓Mir.p_sh, ↓Mir.p_own, ↓Mir.ps_nil, ↓Mir.ps_cons, ↓Mir.f_sh, ↓Mir.f_own, ↓Mir.fs_nil, ↓Mir.fs_cons, ↓Mir.fo_t, ↓Mir.p_b_own0, ↓Mir.p_b_sh0, ↓Mir.f_b0, ↓Mir.fo_b0, ↓Mir.p_b_own1, ↓Mir.p_b_sh1, ↓Mir.f_b1, ↓Mir.fo_b1, ↓Mir.p_b_own2, ↓Mir.p_b_sh2, ↓Mir.f_b2, ↓Mir.fo_b2, ↓Mir.p_b_own3, ↓Mir.p_b_sh3, ↓Mir.f_b3, ↓Mir.fo_b3, ↓Mir.p_b_own4, ↓Mir.p_b_sh4, ↓Mir.f_b4, ↓Mir.fo_b4, ↓Mir.p_b_own5, ↓Mir.p_b_sh5, ↓Mir.f_b5, ↓Mir.fo_b5, ↓Mir.p_b_own6, ↓Mir.p_b_sh6, ↓Mir.f_b6, ↓Mir.fo_b6, ↓Mir.p_b_own7, ↓Mir.p_b_sh7, ↓Mir.f_b7, ↓Mir.fo_b7, ↓Mir.p_b_own8, ↓Mir.p_b_sh8, ↓Mir.f_b8, ↓Mir.fo_b8, ↓Mir.p_b_own9, ↓Mir.p_b_sh9, ↓Mir.f_b9, ↓Mir.fo_b9, ↓Mir.p_b_own10, ↓Mir.p_b_sh10, ↓Mir.f_b10, ↓Mir.fo_b10, ↓Mir.p_b_own11, ↓Mir.p_b_sh11, ↓Mir.f_b11, ↓Mir.fo_b11, ↓Mir.p_b_own12, ↓Mir.p_b_sh12, ↓Mir.f_b12, ↓Mir.fo_b12, ↓Mir.p_b_own13, ↓Mir.p_b_sh13, ↓Mir.f_b13, ↓Mir.fo_b13, ↓Mir.p_b_own14, ↓Mir.p_b_sh14, ↓Mir.f_b14, ↓Mir.fo_b14, ↓Mir.p_b_own15, ↓Mir.p_b_sh15, ↓Mir.f_b15, ↓Mir.fo_b15, ↓Mir.p_b_own16, ↓Mir.p_b_sh16, ↓Mir.f_b16, ↓Mir.fo_b16, ↓Mir.p_b_own17, ↓Mir.p_b_sh17, ↓Mir.f_b17, ↓Mir.fo_b17, ↓Mir.p_b_own18, ↓Mir.p_b_sh18, ↓Mir.f_b18, ↓Mir.fo_b18, ↓Mir.p_b_own19, ↓Mir.p_b_sh19, ↓Mir.f_b19, ↓Mir.fo_b19, ↓Mir.p_b_own20, ↓Mir.p_b_sh20, ↓Mir.f_b20, ↓Mir.fo_b20, ↓Mir.p_b_own21, ↓Mir.p_b_sh21, ↓Mir.f_b21, ↓Mir.fo_b21, ↓Mir.p_b_own22, ↓Mir.p_b_sh22, ↓Mir.f_b22, ↓Mir.fo_b22, ↓Mir.p_b_own23, ↓Mir.p_b_sh23, ↓Mir.f_b23, ↓Mir.fo_b23, ↓Mir.p_b_own24, ↓Mir.p_b_sh24, ↓Mir.f_b24, ↓Mir.fo_b24, ↓Mir.p_b_own25, ↓Mir.p_b_sh25, ↓Mir.f_b25, ↓Mir.fo_b25, ↓Mir.pv_sh, ↓Mir.pv_own, ↓Mir.bt_name0, ↓Mir.sa_0, ↓Mir.bt_name1, ↓Mir.sa_1, ↓Mir.bt_name2, ↓Mir.sa_2, ↓Mir.bt_name3, ↓Mir.sa_3, ↓Mir.bt_name4, ↓Mir.sa_4, ↓Mir.bt_name5, ↓Mir.sa_5, ↓Mir.bt_name6, ↓Mir.sa_6, ↓Mir.bt_name7, ↓Mir.sa_7, ↓Mir.bt_name8, ↓Mir.sa_8, ↓Mir.bt_name9, ↓Mir.sa_9, ↓Mir.bt_name10, ↓Mir.sa_10, ↓Mir.bt_name11, ↓Mir.sa_11, ↓Mir.bt_name12, ↓Mir.sa_12, ↓Mir.bt_name13, ↓Mir.sa_13, ↓Mir.bt_name14, ↓Mir.sa_14, ↓Mir.bt_name15, ↓Mir.sa_15, ↓Mir.bt_name16, ↓Mir.sa_16, ↓Mir.bt_name17, ↓Mir.sa_17, ↓Mir.bt_name18, ↓Mir.sa_18, ↓Mir.bt_name19, ↓Mir.sa_19, ↓Mir.bt_name20, ↓Mir.sa_20, ↓Mir.bt_name21, ↓Mir.sa_21, ↓Mir.bt_name22, ↓Mir.sa_22, ↓Mir.bt_name23, ↓Mir.sa_23, ↓Mir.bt_name24, ↓Mir.sa_24, ↓Mir.bt_name25, ↓Mir.sa_25, ↓Mir.sa_end, ↓Mir.bt_tup, ↓Mir.b_Add, ↓Mir.b_Sub, ↓Mir.b_BitAnd, ↓Mir.b_BitOr, ↓Mir.b_BitXor, ↓Mir.b_Mult, ↓Mir.b_Mod, ↓Mir.b_FloorDiv, ↓Mir.b_Pow, ↓Mir.b_LShift, ↓Mir.b_RShift, ↓Mir.b_Add_str, ↓Mir.b_Add_lst, ↓Mir.b_Add_tup, ↓Mir.c_Lt, ↓Mir.c_LtE, ↓Mir.c_Gt, ↓Mir.c_GtE, ↓Mir.c_Eq, ↓Mir.c_NotEq, ↓Mir.c_Eq_str, ↓Mir.c_NotEq_str, ↓Mir.c_Eq_bl, ↓Mir.c_NotEq_bl, ↓Mir.c_Eq_int_str, ↓Mir.c_NotEq_int_str, ↓Mir.c_Eq_str_int, ↓Mir.c_NotEq_str_int, ↓Mir.c_Eq_bl_str, ↓Mir.c_NotEq_bl_str, ↓Mir.c_Eq_str_bl, ↓Mir.c_NotEq_str_bl, ↓Mir.c_Eq_int_non, ↓Mir.c_NotEq_int_non, ↓Mir.c_Eq_str_non, ↓Mir.c_NotEq_str_non, ↓Mir.c_Eq_bl_non, ↓Mir.c_NotEq_bl_non, ↓Mir.c_Is_int, ↓Mir.c_IsNot_int, ↓Mir.c_Is_str, ↓Mir.c_IsNot_str, ↓Mir.c_Is_bl, ↓Mir.c_IsNot_bl, ↓Mir.c_Is_tup, ↓Mir.c_IsNot_tup, ↓Mir.c_Is_lst, ↓Mir.c_IsNot_lst, ↓Mir.c_Is_non, ↓Mir.c_IsNot_non, ↓Mir.c_In, ↓Mir.c_NotIn, ↓Mir.tr_bl, ↓Mir.tr_int, ↓Mir.tr_lst, ↓Mir.tr_tup, ↓Mir.tr_non, ↓Mir.x_lst, ↓Mir.x_tup, ↓Mir.at_0, ↓Mir.at_1, ↓Mir.at_2, ↓Mir.at_3, ↓Mir.at_4, ↓Mir.at_5, ↓Mir.at_6, ↓Mir.at_7, ↓Mir.sl_lst, ↓Mir.sl_tup, ↓Mir.bl_len_lst, ↓Mir.bl_len_tup, ↓Mir.bl_abs, ↓Mir.bl_max, ↓Mir.bl_min, ↓Mir.bl_int_int, ↓Mir.bl_int_bl, ↓Mir.bl_list_lst, ↓Mir.bl_list_tup, ↓Mir.bl_tuple_lst, ↓Mir.bl_tuple_tup, ↓Mir.bl_sum, ↓Mir.bl_all, ↓Mir.bl_any, ↓Mir.bl_sorted, ↓Mir.as_ints, ↓Mir.as_bls, ↓Mir.as_strs, ↓Mir.is_non_tuple, ↓Mir.is_non_list, ↓Mir.is_non_bool, ↓Mir.is_non_int, ↓Mir.is_non_str, ↓Mir.is_bl_tuple, ↓Mir.is_bl_list, ↓Mir.is_bl_bool, ↓Mir.is_bl_int, ↓Mir.is_bl_str, ↓Mir.is_int_tuple, ↓Mir.is_int_list, ↓Mir.is_int_bool, ↓Mir.is_int_int, ↓Mir.is_int_str, ↓Mir.is_str_tuple, ↓Mir.is_str_list, ↓Mir.is_str_bool, ↓Mir.is_str_int, ↓Mir.is_str_str, ↓Mir.is_lst_tuple, ↓Mir.is_lst_list, ↓Mir.is_lst_bool, ↓Mir.is_lst_int, ↓Mir.is_lst_str, ↓Mir.is_tup_tuple, ↓Mir.is_tup_list, ↓Mir.is_tup_bool, ↓Mir.is_tup_int, ↓Mir.is_tup_str, ↓Mir.it_lst, ↓Mir.it_tup, ↓Mir.z_lst, ↓Mir.z_tup, ↓Mir.s_nil, ↓Mir.s_set, ↓Mir.s_expr, ↓Mir.s_ret, ↓Mir.s_retN, ↓Mir.s_pass, ↓Mir.s_brk, ↓Mir.ifS_t, ↓Mir.ifS_f, ↓Mir.s_if, ↓Mir.s_for, ↓Mir.s_while, ↓Mir.s_app0, ↓Mir.appE_0, ↓Mir.s_ext0, ↓Mir.extE_0, ↓Mir.setE_0, ↓Mir.s_app1, ↓Mir.appE_1, ↓Mir.s_ext1, ↓Mir.extE_1, ↓Mir.setE_1, ↓Mir.s_app2, ↓Mir.appE_2, ↓Mir.s_ext2, ↓Mir.extE_2, ↓Mir.setE_2, ↓Mir.s_app3, ↓Mir.appE_3, ↓Mir.s_ext3, ↓Mir.extE_3, ↓Mir.setE_3, ↓Mir.s_app4, ↓Mir.appE_4, ↓Mir.s_ext4, ↓Mir.extE_4, ↓Mir.setE_4, ↓Mir.s_app5, ↓Mir.appE_5, ↓Mir.s_ext5, ↓Mir.extE_5, ↓Mir.setE_5, ↓Mir.s_app6, ↓Mir.appE_6, ↓Mir.s_ext6, ↓Mir.extE_6, ↓Mir.setE_6, ↓Mir.s_app7, ↓Mir.appE_7, ↓Mir.s_ext7, ↓Mir.extE_7, ↓Mir.setE_7, ↓Mir.s_app8, ↓Mir.appE_8, ↓Mir.s_ext8, ↓Mir.extE_8, ↓Mir.setE_8, ↓Mir.s_app9, ↓Mir.appE_9, ↓Mir.s_ext9, ↓Mir.extE_9, ↓Mir.setE_9, ↓Mir.s_app10, ↓Mir.appE_10, ↓Mir.s_ext10, ↓Mir.extE_10, ↓Mir.setE_10, ↓Mir.s_app11, ↓Mir.appE_11, ↓Mir.s_ext11, ↓Mir.extE_11, ↓Mir.setE_11, ↓Mir.s_app12, ↓Mir.appE_12, ↓Mir.s_ext12, ↓Mir.extE_12, ↓Mir.setE_12, ↓Mir.s_app13, ↓Mir.appE_13, ↓Mir.s_ext13, ↓Mir.extE_13, ↓Mir.setE_13, ↓Mir.s_app14, ↓Mir.appE_14, ↓Mir.s_ext14, ↓Mir.extE_14, ↓Mir.setE_14, ↓Mir.s_app15, ↓Mir.appE_15, ↓Mir.s_ext15, ↓Mir.extE_15, ↓Mir.setE_15, ↓Mir.s_app16, ↓Mir.appE_16, ↓Mir.s_ext16, ↓Mir.extE_16, ↓Mir.setE_16, ↓Mir.s_app17, ↓Mir.appE_17, ↓Mir.s_ext17, ↓Mir.extE_17, ↓Mir.setE_17, ↓Mir.s_app18, ↓Mir.appE_18, ↓Mir.s_ext18, ↓Mir.extE_18, ↓Mir.setE_18, ↓Mir.s_app19, ↓Mir.appE_19, ↓Mir.s_ext19, ↓Mir.extE_19, ↓Mir.setE_19, ↓Mir.s_app20, ↓Mir.appE_20, ↓Mir.s_ext20, ↓Mir.extE_20, ↓Mir.setE_20, ↓Mir.s_app21, ↓Mir.appE_21, ↓Mir.s_ext21, ↓Mir.extE_21, ↓Mir.setE_21, ↓Mir.s_app22, ↓Mir.appE_22, ↓Mir.s_ext22, ↓Mir.extE_22, ↓Mir.setE_22, ↓Mir.s_app23, ↓Mir.appE_23, ↓Mir.s_ext23, ↓Mir.extE_23, ↓Mir.setE_23, ↓Mir.s_app24, ↓Mir.appE_24, ↓Mir.s_ext24, ↓Mir.extE_24, ↓Mir.setE_24, ↓Mir.s_app25, ↓Mir.appE_25, ↓Mir.s_ext25, ↓Mir.extE_25, ↓Mir.setE_25, ↓Mir.ifS_not, ↓Mir.ifS_pos, ↓Mir.ifS_neg, ↓Mir.ifB_not, ↓Mir.ifB_pos, ↓Mir.ifB_neg, ↓Mir.turnC_eq, ↓Mir.shNs_nil, ↓Mir.shNs_cons, ↓Mir.shN1_ok, Mir.shN1_none, Mir.shN1_sh, Mir.wipe_nil, Mir.wipe_cons, Mir.back_nil, Mir.back_cons, List.set_cons_zero, List.set_cons_succ, List.getD_cons_zero, List.getD_cons_succ, List.map_cons, List.map_nil, ↓Mir.limK_le, ↓Mir.inRK_ok, ↓Mir.okK_ok, ↓Mir.appK_ok, ↓Mir.extK_ok, ↓Mir.finK_ret, ↓Mir.finK_next, ↓Mir.finK_for, ↓Mir.finK_while, ↓Mir.finK_comp, ↓Mir.finK_ifB, ↓Mir.finK_ifS, Mir.app_nil, Mir.app_cons, Mir.flK_next, Mir.flK_ret, Mir.flK_brk, Option.bind_none, decide_true, decide_false, Bool.not_true, Bool.not_false, Mir.pv_sh, Mir.pv_own, List.cons_append, List.nil_append, Mir.okK_ok, Int.reducePow, Int.reduceToNat, Int.reduceMul, Int.reduceAdd, Int.reduceSub, Int.reduceNeg, Nat.reducePow, Nat.reduceMul, Nat.reduceAdd, Nat.reduceSub, Int.one_mul, Int.zero_add, Int.zero_mul, ↓Mir.atI_nat, Int.toNat_natCast])
theorem shut_k (B : List Bx) (R : List Rw) (L : List Fr) {n : Nat} {γ : Type} {c : Sl → Option γ} (hn : 2 ≤ n) (hL : goodF R L) : (fns P n 2 [progpv B R, .tup (L.map fun f => PV.tup [.int (f.row : Int), .int (f.place : Int), .int (f.turn : Int), .tup (f.hand.map PV.int)])]).bind c = c (.sh (.int (shutBy R L))) := by
  obtain ⟨n, rfl⟩ : ∃ j, n = j + 1 := ⟨n - 1, by omega⟩
  have e : fns P (n + 1) 2 [progpv B R, .tup (L.map fun f => PV.tup [.int (f.row : Int), .int (f.place : Int), .int (f.turn : Int), .tup (f.hand.map PV.int)])] = some (.sh (.int (shutBy R L))) := by
    rw [r2, b2]
    walk_at "st2"
    refine for_go L (fun f => PV.tup [.int (f.row : Int), .int (f.place : Int), .int (f.turn : Int), .tup (f.hand.map PV.int)]) (fun pre e => ∃ j, e = [some (.sh (progpv B R)), some (.sh (.tup (L.map fun f => PV.tup [.int (f.row : Int), .int (f.place : Int), .int (f.turn : Int), .tup (f.hand.map PV.int)]))), some (.sh (.int (shutBy R pre))), j]) rfl ⟨_, rfl⟩ ?_ ?_
    · rintro pre z q e hz ⟨j, rfl⟩
      obtain ⟨h1, h2⟩ := hL.2.2 z (by rw [hz]; simp)
      have es : shutBy R (pre ++ [z]) = Builtin.bitOr (shutBy R pre) (wordAt R z.row z.place) := by unfold shutBy; rw [List.foldl_append]; rfl
      rw [es]
      walk_at "st2"
      exact ⟨_, rfl, _, rfl⟩
    · rintro e ⟨j, rfl⟩
      walk_at "st2"
  rw [e]; rfl
def bells1 (R : List Rw) : List Nat := (List.range (R.length - 1)).map fun (k : Nat) => k + 1
theorem bells1_eq (R : List Rw) (h1 : 1 ≤ R.length) : rangeL 1 ((R.length : Int) - 1).toNat = (bells1 R).map fun (k : Nat) => .int (k : Int) := by
  rw [show ((R.length : Int) - 1).toNat = R.length - 1 by omega, rangeL_one]; rfl
theorem mem_bells {R : List Rw} {z : Nat} (h : z ∈ bells1 R) : z < R.length := by
  obtain ⟨k, hk, rfl⟩ := List.mem_map.mp h
  have := List.mem_range.mp hk
  omega
theorem bells1_len (R : List Rw) : (bells1 R).length ≤ R.length := by unfold bells1; rw [List.length_map, List.length_range]; omega
def lastF (L : List Fr) : Fr := L.getD (L.length - 1) f0r
def enters (R : List Rw) (L : List Fr) (b : Nat) : Bool := decide ((R.getD (lastF L).row r0w).2.1 < (R.getD b r0w).2.1) && decide (shutBy R L / 2 ^ b % 2 = 0)
def comers (R : List Rw) (L : List Fr) : List Nat := (bells1 R).filter (enters R L)
local macro_rules | `(tactic| walk_at "st3") => `(tactic| simp (maxSteps := 4000000) (disch := first | omega | assumption | ((try simp only [List.length_cons, List.length_nil, List.length_append, List.length_map, List.length_range]); omega) | decide) only [↓rw_at, ↓pl_at, ↓fr_last, ↓shut_k, ↓Mir.k_non, ↓Mir.k_bl, ↓Mir.k_int, ↓Mir.k_str, ↓Mir.k_glob, ↓Mir.k_var_sh0, ↓Mir.k_var_own0, ↓Mir.k_var_sh1, ↓Mir.k_var_own1, ↓Mir.k_var_sh2, ↓Mir.k_var_own2, ↓Mir.k_var_sh3, ↓Mir.k_var_own3, ↓Mir.k_var_sh4, ↓Mir.k_var_own4, ↓Mir.k_var_sh5, ↓Mir.k_var_own5, ↓Mir.k_var_sh6, ↓Mir.k_var_own6, ↓Mir.k_var_sh7, ↓Mir.k_var_own7, ↓Mir.k_var_sh8, ↓Mir.k_var_own8, ↓Mir.k_var_sh9, ↓Mir.k_var_own9, ↓Mir.k_var_sh10, ↓Mir.k_var_own10, ↓Mir.k_var_sh11, ↓Mir.k_var_own11, ↓Mir.k_var_sh12, ↓Mir.k_var_own12, ↓Mir.k_var_sh13, ↓Mir.k_var_own13, ↓Mir.k_var_sh14, ↓Mir.k_var_own14, ↓Mir.k_var_sh15, ↓Mir.k_var_own15, ↓Mir.k_var_sh16, ↓Mir.k_var_own16, ↓Mir.k_var_sh17, ↓Mir.k_var_own17, ↓Mir.k_var_sh18, ↓Mir.k_var_own18, ↓Mir.k_var_sh19, ↓Mir.k_var_own19, ↓Mir.k_var_sh20, ↓Mir.k_var_own20, ↓Mir.k_var_sh21, ↓Mir.k_var_own21, ↓Mir.k_var_sh22, ↓Mir.k_var_own22, ↓Mir.k_var_sh23, ↓Mir.k_var_own23, ↓Mir.k_var_sh24, ↓Mir.k_var_own24, ↓Mir.k_var_sh25, ↓Mir.k_var_own25, ↓Mir.k_bin, ↓Mir.k_cmp, ↓Mir.ifB_t, ↓Mir.ifB_f, ↓Mir.k_chain, ↓Mir.boolK_bl, ↓Mir.intK_int, ↓Mir.k_and, ↓Mir.k_or, ↓Mir.k_not, ↓Mir.k_neg, ↓Mir.k_inv, ↓Mir.k_ife, ↓Mir.k_ix, ↓Mir.k_slc, ↓Mir.k_tup, ↓Mir.k_lst, ↓Mir.k_call, ↓Mir.callK_1, ↓Mir.callK_2, ↓Mir.callK_3, ↓Mir.callK_4, ↓Mir.callK_5, ↓Mir.callK_6, ↓Mir.callK_7, ↓Mir.callK_8, ↓Mir.callK_Int, ↓Mir.callK_Bool, ↓Mir.callK_Str, ↓Mir.callK_non, ↓Mir.k_blt, ↓Mir.k_isi, ↓Mir.k_meth, ↓Mir.k_comp, ↓Mir.k_no, ↓Mir.k_some, ↓Mir.k_yes, ↓Mir.k_on, ↓Mir.k_nil, ↓Mir.k_cons, ↓Mir.t_val, ↓Mir.t_cmp, ↓Mir.t_chain, ↓Mir.t_and, ↓Mir.t_or, ↓Mir.t_not, ↓Mir.i_val, ↓Mir.i_range1, ↓Mir.i_range2, ↓Mir.lstK_lst, ↓Mir.i_enum, ↓Mir.seqK_lst, ↓Mir.seqK_tup, ↓Mir.i_rev, ↓Mir.i_zip, ↓Mir.p_sh, ↓Mir.p_own, ↓Mir.ps_nil, ↓Mir.ps_cons, ↓Mir.f_sh, ↓Mir.f_own, ↓Mir.fs_nil, ↓Mir.fs_cons, ↓Mir.fo_t, ↓Mir.p_b_own0, ↓Mir.p_b_sh0, ↓Mir.f_b0, ↓Mir.fo_b0, ↓Mir.p_b_own1, ↓Mir.p_b_sh1, ↓Mir.f_b1, ↓Mir.fo_b1, ↓Mir.p_b_own2, ↓Mir.p_b_sh2, ↓Mir.f_b2, ↓Mir.fo_b2, ↓Mir.p_b_own3, ↓Mir.p_b_sh3, ↓Mir.f_b3, ↓Mir.fo_b3, ↓Mir.p_b_own4, ↓Mir.p_b_sh4, ↓Mir.f_b4, ↓Mir.fo_b4, ↓Mir.p_b_own5, ↓Mir.p_b_sh5, ↓Mir.f_b5, ↓Mir.fo_b5, ↓Mir.p_b_own6, ↓Mir.p_b_sh6, ↓Mir.f_b6, ↓Mir.fo_b6, ↓Mir.p_b_own7, ↓Mir.p_b_sh7, ↓Mir.f_b7, ↓Mir.fo_b7, ↓Mir.p_b_own8, ↓Mir.p_b_sh8, ↓Mir.f_b8, ↓Mir.fo_b8, ↓Mir.p_b_own9, ↓Mir.p_b_sh9, ↓Mir.f_b9, ↓Mir.fo_b9, ↓Mir.p_b_own10, ↓Mir.p_b_sh10, ↓Mir.f_b10, ↓Mir.fo_b10, ↓Mir.p_b_own11, ↓Mir.p_b_sh11, ↓Mir.f_b11, ↓Mir.fo_b11, ↓Mir.p_b_own12, ↓Mir.p_b_sh12, ↓Mir.f_b12, ↓Mir.fo_b12, ↓Mir.p_b_own13, ↓Mir.p_b_sh13, ↓Mir.f_b13, ↓Mir.fo_b13, ↓Mir.p_b_own14, ↓Mir.p_b_sh14, ↓Mir.f_b14, ↓Mir.fo_b14, ↓Mir.p_b_own15, ↓Mir.p_b_sh15, ↓Mir.f_b15, ↓Mir.fo_b15, ↓Mir.p_b_own16, ↓Mir.p_b_sh16, ↓Mir.f_b16, ↓Mir.fo_b16, ↓Mir.p_b_own17, ↓Mir.p_b_sh17, ↓Mir.f_b17, ↓Mir.fo_b17, ↓Mir.p_b_own18, ↓Mir.p_b_sh18, ↓Mir.f_b18, ↓Mir.fo_b18, ↓Mir.p_b_own19, ↓Mir.p_b_sh19, ↓Mir.f_b19, ↓Mir.fo_b19, ↓Mir.p_b_own20, ↓Mir.p_b_sh20, ↓Mir.f_b20, ↓Mir.fo_b20, ↓Mir.p_b_own21, ↓Mir.p_b_sh21, ↓Mir.f_b21, ↓Mir.fo_b21, ↓Mir.p_b_own22, ↓Mir.p_b_sh22, ↓Mir.f_b22, ↓Mir.fo_b22, ↓Mir.p_b_own23, ↓Mir.p_b_sh23, ↓Mir.f_b23, ↓Mir.fo_b23, ↓Mir.p_b_own24, ↓Mir.p_b_sh24, ↓Mir.f_b24, ↓Mir.fo_b24, ↓Mir.p_b_own25, ↓Mir.p_b_sh25, ↓Mir.f_b25, ↓Mir.fo_b25, ↓Mir.pv_sh, ↓Mir.pv_own, ↓Mir.bt_name0, ↓Mir.sa_0, ↓Mir.bt_name1, ↓Mir.sa_1, ↓Mir.bt_name2, ↓Mir.sa_2, ↓Mir.bt_name3, ↓Mir.sa_3, ↓Mir.bt_name4, ↓Mir.sa_4, ↓Mir.bt_name5, ↓Mir.sa_5, ↓Mir.bt_name6, ↓Mir.sa_6, ↓Mir.bt_name7, ↓Mir.sa_7, ↓Mir.bt_name8, ↓Mir.sa_8, ↓Mir.bt_name9, ↓Mir.sa_9, ↓Mir.bt_name10, ↓Mir.sa_10, ↓Mir.bt_name11, ↓Mir.sa_11, ↓Mir.bt_name12, ↓Mir.sa_12, ↓Mir.bt_name13, ↓Mir.sa_13, ↓Mir.bt_name14, ↓Mir.sa_14, ↓Mir.bt_name15, ↓Mir.sa_15, ↓Mir.bt_name16, ↓Mir.sa_16, ↓Mir.bt_name17, ↓Mir.sa_17, ↓Mir.bt_name18, ↓Mir.sa_18, ↓Mir.bt_name19, ↓Mir.sa_19, ↓Mir.bt_name20, ↓Mir.sa_20, ↓Mir.bt_name21, ↓Mir.sa_21, ↓Mir.bt_name22, ↓Mir.sa_22, ↓Mir.bt_name23, ↓Mir.sa_23, ↓Mir.bt_name24, ↓Mir.sa_24, ↓Mir.bt_name25, ↓Mir.sa_25, ↓Mir.sa_end, ↓Mir.bt_tup, ↓Mir.b_Add, ↓Mir.b_Sub, ↓Mir.b_BitAnd, ↓Mir.b_BitOr, ↓Mir.b_BitXor, ↓Mir.b_Mult, ↓Mir.b_Mod, ↓Mir.b_FloorDiv, ↓Mir.b_Pow, ↓Mir.b_LShift, ↓Mir.b_RShift, ↓Mir.b_Add_str, ↓Mir.b_Add_lst, ↓Mir.b_Add_tup, ↓Mir.c_Lt, ↓Mir.c_LtE, ↓Mir.c_Gt, ↓Mir.c_GtE, ↓Mir.c_Eq, ↓Mir.c_NotEq, ↓Mir.c_Eq_str, ↓Mir.c_NotEq_str, ↓Mir.c_Eq_bl, ↓Mir.c_NotEq_bl, ↓Mir.c_Eq_int_str, ↓Mir.c_NotEq_int_str, ↓Mir.c_Eq_str_int, ↓Mir.c_NotEq_str_int, ↓Mir.c_Eq_bl_str, ↓Mir.c_NotEq_bl_str, ↓Mir.c_Eq_str_bl, ↓Mir.c_NotEq_str_bl, ↓Mir.c_Eq_int_non, ↓Mir.c_NotEq_int_non, ↓Mir.c_Eq_str_non, ↓Mir.c_NotEq_str_non, ↓Mir.c_Eq_bl_non, ↓Mir.c_NotEq_bl_non, ↓Mir.c_Is_int, ↓Mir.c_IsNot_int, ↓Mir.c_Is_str, ↓Mir.c_IsNot_str, ↓Mir.c_Is_bl, ↓Mir.c_IsNot_bl, ↓Mir.c_Is_tup, ↓Mir.c_IsNot_tup, ↓Mir.c_Is_lst, ↓Mir.c_IsNot_lst, ↓Mir.c_Is_non, ↓Mir.c_IsNot_non, ↓Mir.c_In, ↓Mir.c_NotIn, ↓Mir.tr_bl, ↓Mir.tr_int, ↓Mir.tr_lst, ↓Mir.tr_tup, ↓Mir.tr_non, ↓Mir.x_lst, ↓Mir.x_tup, ↓Mir.at_0, ↓Mir.at_1, ↓Mir.at_2, ↓Mir.at_3, ↓Mir.at_4, ↓Mir.at_5, ↓Mir.at_6, ↓Mir.at_7, ↓Mir.sl_lst, ↓Mir.sl_tup, ↓Mir.bl_len_lst, ↓Mir.bl_len_tup, ↓Mir.bl_abs, ↓Mir.bl_max, ↓Mir.bl_min, ↓Mir.bl_int_int, ↓Mir.bl_int_bl, ↓Mir.bl_list_lst, ↓Mir.bl_list_tup, ↓Mir.bl_tuple_lst, ↓Mir.bl_tuple_tup, ↓Mir.bl_sum, ↓Mir.bl_all, ↓Mir.bl_any, ↓Mir.bl_sorted, ↓Mir.as_ints, ↓Mir.as_bls, ↓Mir.as_strs, ↓Mir.is_non_tuple, ↓Mir.is_non_list, ↓Mir.is_non_bool, ↓Mir.is_non_int, ↓Mir.is_non_str, ↓Mir.is_bl_tuple, ↓Mir.is_bl_list, ↓Mir.is_bl_bool, ↓Mir.is_bl_int, ↓Mir.is_bl_str, ↓Mir.is_int_tuple, ↓Mir.is_int_list, ↓Mir.is_int_bool, ↓Mir.is_int_int, ↓Mir.is_int_str, ↓Mir.is_str_tuple, ↓Mir.is_str_list, ↓Mir.is_str_bool, ↓Mir.is_str_int, ↓Mir.is_str_str, ↓Mir.is_lst_tuple, ↓Mir.is_lst_list, ↓Mir.is_lst_bool, ↓Mir.is_lst_int, ↓Mir.is_lst_str, ↓Mir.is_tup_tuple, ↓Mir.is_tup_list, ↓Mir.is_tup_bool, ↓Mir.is_tup_int, ↓Mir.is_tup_str, ↓Mir.it_lst, ↓Mir.it_tup, ↓Mir.z_lst, ↓Mir.z_tup, ↓Mir.s_nil, ↓Mir.s_set, ↓Mir.s_expr, ↓Mir.s_ret, ↓Mir.s_retN, ↓Mir.s_pass, ↓Mir.s_brk, ↓Mir.ifS_t, ↓Mir.ifS_f, ↓Mir.s_if, ↓Mir.s_for, ↓Mir.s_while, ↓Mir.s_app0, ↓Mir.appE_0, ↓Mir.s_ext0, ↓Mir.extE_0, ↓Mir.setE_0, ↓Mir.s_app1, ↓Mir.appE_1, ↓Mir.s_ext1, ↓Mir.extE_1, ↓Mir.setE_1, ↓Mir.s_app2, ↓Mir.appE_2, ↓Mir.s_ext2, ↓Mir.extE_2, ↓Mir.setE_2, ↓Mir.s_app3, ↓Mir.appE_3, ↓Mir.s_ext3, ↓Mir.extE_3, ↓Mir.setE_3, ↓Mir.s_app4, ↓Mir.appE_4, ↓Mir.s_ext4, ↓Mir.extE_4, ↓Mir.setE_4, ↓Mir.s_app5, ↓Mir.appE_5, ↓Mir.s_ext5, ↓Mir.extE_5, ↓Mir.setE_5, ↓Mir.s_app6, ↓Mir.appE_6, ↓Mir.s_ext6, ↓Mir.extE_6, ↓Mir.setE_6, ↓Mir.s_app7, ↓Mir.appE_7, ↓Mir.s_ext7, ↓Mir.extE_7, ↓Mir.setE_7, ↓Mir.s_app8, ↓Mir.appE_8, ↓Mir.s_ext8, ↓Mir.extE_8, ↓Mir.setE_8, ↓Mir.s_app9, ↓Mir.appE_9, ↓Mir.s_ext9, ↓Mir.extE_9, ↓Mir.setE_9, ↓Mir.s_app10, ↓Mir.appE_10, ↓Mir.s_ext10, ↓Mir.extE_10, ↓Mir.setE_10, ↓Mir.s_app11, ↓Mir.appE_11, ↓Mir.s_ext11, ↓Mir.extE_11, ↓Mir.setE_11, ↓Mir.s_app12, ↓Mir.appE_12, ↓Mir.s_ext12, ↓Mir.extE_12, ↓Mir.setE_12, ↓Mir.s_app13, ↓Mir.appE_13, ↓Mir.s_ext13, ↓Mir.extE_13, ↓Mir.setE_13, ↓Mir.s_app14, ↓Mir.appE_14, ↓Mir.s_ext14, ↓Mir.extE_14, ↓Mir.setE_14, ↓Mir.s_app15, ↓Mir.appE_15, ↓Mir.s_ext15, ↓Mir.extE_15, ↓Mir.setE_15, ↓Mir.s_app16, ↓Mir.appE_16, ↓Mir.s_ext16, ↓Mir.extE_16, ↓Mir.setE_16, ↓Mir.s_app17, ↓Mir.appE_17, ↓Mir.s_ext17, ↓Mir.extE_17, ↓Mir.setE_17, ↓Mir.s_app18, ↓Mir.appE_18, ↓Mir.s_ext18, ↓Mir.extE_18, ↓Mir.setE_18, ↓Mir.s_app19, ↓Mir.appE_19, ↓Mir.s_ext19, ↓Mir.extE_19, ↓Mir.setE_19, ↓Mir.s_app20, ↓Mir.appE_20, ↓Mir.s_ext20, ↓Mir.extE_20, ↓Mir.setE_20, ↓Mir.s_app21, ↓Mir.appE_21, ↓Mir.s_ext21, ↓Mir.extE_21, ↓Mir.setE_21, ↓Mir.s_app22, ↓Mir.appE_22, ↓Mir.s_ext22, ↓Mir.extE_22, ↓Mir.setE_22, ↓Mir.s_app23, ↓Mir.appE_23, ↓Mir.s_ext23, ↓Mir.extE_23, ↓Mir.setE_23, ↓Mir.s_app24, ↓Mir.appE_24, ↓Mir.s_ext24, ↓Mir.extE_24, ↓Mir.setE_24, ↓Mir.s_app25, ↓Mir.appE_25, ↓Mir.s_ext25, ↓Mir.extE_25, ↓Mir.setE_25, ↓Mir.ifS_not, ↓Mir.ifS_pos, ↓Mir.ifS_neg, ↓Mir.ifB_not, ↓Mir.ifB_pos, ↓Mir.ifB_neg, ↓Mir.turnC_eq, ↓Mir.shNs_nil, ↓Mir.shNs_cons, ↓Mir.shN1_ok, Mir.shN1_none, Mir.shN1_sh, Mir.wipe_nil, Mir.wipe_cons, Mir.back_nil, Mir.back_cons, List.set_cons_zero, List.set_cons_succ, List.getD_cons_zero, List.getD_cons_succ, List.map_cons, List.map_nil, ↓Mir.limK_le, ↓Mir.inRK_ok, ↓Mir.okK_ok, ↓Mir.appK_ok, ↓Mir.extK_ok, ↓Mir.finK_ret, ↓Mir.finK_next, ↓Mir.finK_for, ↓Mir.finK_while, ↓Mir.finK_comp, ↓Mir.finK_ifB, ↓Mir.finK_ifS, Mir.app_nil, Mir.app_cons, Mir.flK_next, Mir.flK_ret, Mir.flK_brk, Option.bind_none, decide_true, decide_false, Bool.not_true, Bool.not_false, Mir.pv_sh, Mir.pv_own, List.cons_append, List.nil_append, Mir.okK_ok, Int.reducePow, Int.reduceToNat, Int.reduceMul, Int.reduceAdd, Int.reduceSub, Int.reduceNeg, Nat.reducePow, Nat.reduceMul, Nat.reduceAdd, Nat.reduceSub, Int.one_mul, Int.zero_add, Int.zero_mul, ↓Mir.atI_nat, Int.toNat_natCast])
theorem enter_k (B : List Bx) (R : List Rw) (L : List Fr) (b : Nat) {n : Nat} {γ : Type} {c : Sl → Option γ} (hn : 3 ≤ n) (hL : goodF R L) (hb : b < R.length) (hR : R.length ≤ 7) : (fns P n 3 [progpv B R, .tup (L.map fun f => PV.tup [.int (f.row : Int), .int (f.place : Int), .int (f.turn : Int), .tup (f.hand.map PV.int)]), .int b]).bind c = c (.sh (.bl (enters R L b))) := by
  obtain ⟨n, rfl⟩ : ∃ j, n = j + 1 := ⟨n - 1, by omega⟩
  have h0 := hL.1
  have hl : (L.getD (L.length - 1) f0r).row < R.length := (hL.2.2 _ (getD_mem (by omega))).1
  have e : fns P (n + 1) 3 [progpv B R, .tup (L.map fun f => PV.tup [.int (f.row : Int), .int (f.place : Int), .int (f.turn : Int), .tup (f.hand.map PV.int)]), .int b] = some (.sh (.bl (enters R L b))) := by
    rw [r3, b3]
    unfold enters lastF
    by_cases d : (R.getD b r0w).2.1 ≤ (R.getD (L.getD (L.length - 1) f0r).row r0w).2.1
    · walk_at "st3"
      rw [decide_eq_false (by omega : ¬ (R.getD (L.getD (L.length - 1) f0r).row r0w).2.1 < (R.getD b r0w).2.1)]
      rfl
    · walk_at "st3"
      rw [decide_eq_true (by omega : (R.getD (L.getD (L.length - 1) f0r).row r0w).2.1 < (R.getD b r0w).2.1)]
      have := bitAnd_m1 (shutBy R L / 2 ^ b)
      simp [this]
  rw [e]; rfl
local macro_rules | `(tactic| walk_at "st4") => `(tactic| simp (maxSteps := 4000000) (disch := first | omega | assumption | ((try simp only [List.length_cons, List.length_nil, List.length_append, List.length_map, List.length_range]); omega) | decide) only [↓rw_at, ↓pl_at, ↓fr_last, ↓enter_k, ↓Mir.k_non, ↓Mir.k_bl, ↓Mir.k_int, ↓Mir.k_str, ↓Mir.k_glob, ↓Mir.k_var_sh0, ↓Mir.k_var_own0, ↓Mir.k_var_sh1, ↓Mir.k_var_own1, ↓Mir.k_var_sh2, ↓Mir.k_var_own2, ↓Mir.k_var_sh3, ↓Mir.k_var_own3, ↓Mir.k_var_sh4, ↓Mir.k_var_own4, ↓Mir.k_var_sh5, ↓Mir.k_var_own5, ↓Mir.k_var_sh6, ↓Mir.k_var_own6, ↓Mir.k_var_sh7, ↓Mir.k_var_own7, ↓Mir.k_var_sh8, ↓Mir.k_var_own8, ↓Mir.k_var_sh9, ↓Mir.k_var_own9, ↓Mir.k_var_sh10, ↓Mir.k_var_own10, ↓Mir.k_var_sh11, ↓Mir.k_var_own11, ↓Mir.k_var_sh12, ↓Mir.k_var_own12, ↓Mir.k_var_sh13, ↓Mir.k_var_own13, ↓Mir.k_var_sh14, ↓Mir.k_var_own14, ↓Mir.k_var_sh15, ↓Mir.k_var_own15, ↓Mir.k_var_sh16, ↓Mir.k_var_own16, ↓Mir.k_var_sh17, ↓Mir.k_var_own17, ↓Mir.k_var_sh18, ↓Mir.k_var_own18, ↓Mir.k_var_sh19, ↓Mir.k_var_own19, ↓Mir.k_var_sh20, ↓Mir.k_var_own20, ↓Mir.k_var_sh21, ↓Mir.k_var_own21, ↓Mir.k_var_sh22, ↓Mir.k_var_own22, ↓Mir.k_var_sh23, ↓Mir.k_var_own23, ↓Mir.k_var_sh24, ↓Mir.k_var_own24, ↓Mir.k_var_sh25, ↓Mir.k_var_own25, ↓Mir.k_bin, ↓Mir.k_cmp, ↓Mir.ifB_t, ↓Mir.ifB_f, ↓Mir.k_chain, ↓Mir.boolK_bl, ↓Mir.intK_int, ↓Mir.k_and, ↓Mir.k_or, ↓Mir.k_not, ↓Mir.k_neg, ↓Mir.k_inv, ↓Mir.k_ife, ↓Mir.k_ix, ↓Mir.k_slc, ↓Mir.k_tup, ↓Mir.k_lst, ↓Mir.k_call, ↓Mir.callK_1, ↓Mir.callK_2, ↓Mir.callK_3, ↓Mir.callK_4, ↓Mir.callK_5, ↓Mir.callK_6, ↓Mir.callK_7, ↓Mir.callK_8, ↓Mir.callK_Int, ↓Mir.callK_Bool, ↓Mir.callK_Str, ↓Mir.callK_non, ↓Mir.k_blt, ↓Mir.k_isi, ↓Mir.k_meth, ↓Mir.k_comp, ↓Mir.k_no, ↓Mir.k_some, ↓Mir.k_yes, ↓Mir.k_on, ↓Mir.k_nil, ↓Mir.k_cons, ↓Mir.t_val, ↓Mir.t_cmp, ↓Mir.t_chain, ↓Mir.t_and, ↓Mir.t_or, ↓Mir.t_not, ↓Mir.i_val, ↓Mir.i_range1, ↓Mir.i_range2, ↓Mir.lstK_lst, ↓Mir.i_enum, ↓Mir.seqK_lst, ↓Mir.seqK_tup, ↓Mir.i_rev, ↓Mir.i_zip, ↓Mir.p_sh, ↓Mir.p_own, ↓Mir.ps_nil, ↓Mir.ps_cons, ↓Mir.f_sh, ↓Mir.f_own, ↓Mir.fs_nil, ↓Mir.fs_cons, ↓Mir.fo_t, ↓Mir.p_b_own0, ↓Mir.p_b_sh0, ↓Mir.f_b0, ↓Mir.fo_b0, ↓Mir.p_b_own1, ↓Mir.p_b_sh1, ↓Mir.f_b1, ↓Mir.fo_b1, ↓Mir.p_b_own2, ↓Mir.p_b_sh2, ↓Mir.f_b2, ↓Mir.fo_b2, ↓Mir.p_b_own3, ↓Mir.p_b_sh3, ↓Mir.f_b3, ↓Mir.fo_b3, ↓Mir.p_b_own4, ↓Mir.p_b_sh4, ↓Mir.f_b4, ↓Mir.fo_b4, ↓Mir.p_b_own5, ↓Mir.p_b_sh5, ↓Mir.f_b5, ↓Mir.fo_b5, ↓Mir.p_b_own6, ↓Mir.p_b_sh6, ↓Mir.f_b6, ↓Mir.fo_b6, ↓Mir.p_b_own7, ↓Mir.p_b_sh7, ↓Mir.f_b7, ↓Mir.fo_b7, ↓Mir.p_b_own8, ↓Mir.p_b_sh8, ↓Mir.f_b8, ↓Mir.fo_b8, ↓Mir.p_b_own9, ↓Mir.p_b_sh9, ↓Mir.f_b9, ↓Mir.fo_b9, ↓Mir.p_b_own10, ↓Mir.p_b_sh10, ↓Mir.f_b10, ↓Mir.fo_b10, ↓Mir.p_b_own11, ↓Mir.p_b_sh11, ↓Mir.f_b11, ↓Mir.fo_b11, ↓Mir.p_b_own12, ↓Mir.p_b_sh12, ↓Mir.f_b12, ↓Mir.fo_b12, ↓Mir.p_b_own13, ↓Mir.p_b_sh13, ↓Mir.f_b13, ↓Mir.fo_b13, ↓Mir.p_b_own14, ↓Mir.p_b_sh14, ↓Mir.f_b14, ↓Mir.fo_b14, ↓Mir.p_b_own15, ↓Mir.p_b_sh15, ↓Mir.f_b15, ↓Mir.fo_b15, ↓Mir.p_b_own16, ↓Mir.p_b_sh16, ↓Mir.f_b16, ↓Mir.fo_b16, ↓Mir.p_b_own17, ↓Mir.p_b_sh17, ↓Mir.f_b17, ↓Mir.fo_b17, ↓Mir.p_b_own18, ↓Mir.p_b_sh18, ↓Mir.f_b18, ↓Mir.fo_b18, ↓Mir.p_b_own19, ↓Mir.p_b_sh19, ↓Mir.f_b19, ↓Mir.fo_b19, ↓Mir.p_b_own20, ↓Mir.p_b_sh20, ↓Mir.f_b20, ↓Mir.fo_b20, ↓Mir.p_b_own21, ↓Mir.p_b_sh21, ↓Mir.f_b21, ↓Mir.fo_b21, ↓Mir.p_b_own22, ↓Mir.p_b_sh22, ↓Mir.f_b22, ↓Mir.fo_b22, ↓Mir.p_b_own23, ↓Mir.p_b_sh23, ↓Mir.f_b23, ↓Mir.fo_b23, ↓Mir.p_b_own24, ↓Mir.p_b_sh24, ↓Mir.f_b24, ↓Mir.fo_b24, ↓Mir.p_b_own25, ↓Mir.p_b_sh25, ↓Mir.f_b25, ↓Mir.fo_b25, ↓Mir.pv_sh, ↓Mir.pv_own, ↓Mir.bt_name0, ↓Mir.sa_0, ↓Mir.bt_name1, ↓Mir.sa_1, ↓Mir.bt_name2, ↓Mir.sa_2, ↓Mir.bt_name3, ↓Mir.sa_3, ↓Mir.bt_name4, ↓Mir.sa_4, ↓Mir.bt_name5, ↓Mir.sa_5, ↓Mir.bt_name6, ↓Mir.sa_6, ↓Mir.bt_name7, ↓Mir.sa_7, ↓Mir.bt_name8, ↓Mir.sa_8, ↓Mir.bt_name9, ↓Mir.sa_9, ↓Mir.bt_name10, ↓Mir.sa_10, ↓Mir.bt_name11, ↓Mir.sa_11, ↓Mir.bt_name12, ↓Mir.sa_12, ↓Mir.bt_name13, ↓Mir.sa_13, ↓Mir.bt_name14, ↓Mir.sa_14, ↓Mir.bt_name15, ↓Mir.sa_15, ↓Mir.bt_name16, ↓Mir.sa_16, ↓Mir.bt_name17, ↓Mir.sa_17, ↓Mir.bt_name18, ↓Mir.sa_18, ↓Mir.bt_name19, ↓Mir.sa_19, ↓Mir.bt_name20, ↓Mir.sa_20, ↓Mir.bt_name21, ↓Mir.sa_21, ↓Mir.bt_name22, ↓Mir.sa_22, ↓Mir.bt_name23, ↓Mir.sa_23, ↓Mir.bt_name24, ↓Mir.sa_24, ↓Mir.bt_name25, ↓Mir.sa_25, ↓Mir.sa_end, ↓Mir.bt_tup, ↓Mir.b_Add, ↓Mir.b_Sub, ↓Mir.b_BitAnd, ↓Mir.b_BitOr, ↓Mir.b_BitXor, ↓Mir.b_Mult, ↓Mir.b_Mod, ↓Mir.b_FloorDiv, ↓Mir.b_Pow, ↓Mir.b_LShift, ↓Mir.b_RShift, ↓Mir.b_Add_str, ↓Mir.b_Add_lst, ↓Mir.b_Add_tup, ↓Mir.c_Lt, ↓Mir.c_LtE, ↓Mir.c_Gt, ↓Mir.c_GtE, ↓Mir.c_Eq, ↓Mir.c_NotEq, ↓Mir.c_Eq_str, ↓Mir.c_NotEq_str, ↓Mir.c_Eq_bl, ↓Mir.c_NotEq_bl, ↓Mir.c_Eq_int_str, ↓Mir.c_NotEq_int_str, ↓Mir.c_Eq_str_int, ↓Mir.c_NotEq_str_int, ↓Mir.c_Eq_bl_str, ↓Mir.c_NotEq_bl_str, ↓Mir.c_Eq_str_bl, ↓Mir.c_NotEq_str_bl, ↓Mir.c_Eq_int_non, ↓Mir.c_NotEq_int_non, ↓Mir.c_Eq_str_non, ↓Mir.c_NotEq_str_non, ↓Mir.c_Eq_bl_non, ↓Mir.c_NotEq_bl_non, ↓Mir.c_Is_int, ↓Mir.c_IsNot_int, ↓Mir.c_Is_str, ↓Mir.c_IsNot_str, ↓Mir.c_Is_bl, ↓Mir.c_IsNot_bl, ↓Mir.c_Is_tup, ↓Mir.c_IsNot_tup, ↓Mir.c_Is_lst, ↓Mir.c_IsNot_lst, ↓Mir.c_Is_non, ↓Mir.c_IsNot_non, ↓Mir.c_In, ↓Mir.c_NotIn, ↓Mir.tr_bl, ↓Mir.tr_int, ↓Mir.tr_lst, ↓Mir.tr_tup, ↓Mir.tr_non, ↓Mir.x_lst, ↓Mir.x_tup, ↓Mir.at_0, ↓Mir.at_1, ↓Mir.at_2, ↓Mir.at_3, ↓Mir.at_4, ↓Mir.at_5, ↓Mir.at_6, ↓Mir.at_7, ↓Mir.sl_lst, ↓Mir.sl_tup, ↓Mir.bl_len_lst, ↓Mir.bl_len_tup, ↓Mir.bl_abs, ↓Mir.bl_max, ↓Mir.bl_min, ↓Mir.bl_int_int, ↓Mir.bl_int_bl, ↓Mir.bl_list_lst, ↓Mir.bl_list_tup, ↓Mir.bl_tuple_lst, ↓Mir.bl_tuple_tup, ↓Mir.bl_sum, ↓Mir.bl_all, ↓Mir.bl_any, ↓Mir.bl_sorted, ↓Mir.as_ints, ↓Mir.as_bls, ↓Mir.as_strs, ↓Mir.is_non_tuple, ↓Mir.is_non_list, ↓Mir.is_non_bool, ↓Mir.is_non_int, ↓Mir.is_non_str, ↓Mir.is_bl_tuple, ↓Mir.is_bl_list, ↓Mir.is_bl_bool, ↓Mir.is_bl_int, ↓Mir.is_bl_str, ↓Mir.is_int_tuple, ↓Mir.is_int_list, ↓Mir.is_int_bool, ↓Mir.is_int_int, ↓Mir.is_int_str, ↓Mir.is_str_tuple, ↓Mir.is_str_list, ↓Mir.is_str_bool, ↓Mir.is_str_int, ↓Mir.is_str_str, ↓Mir.is_lst_tuple, ↓Mir.is_lst_list, ↓Mir.is_lst_bool, ↓Mir.is_lst_int, ↓Mir.is_lst_str, ↓Mir.is_tup_tuple, ↓Mir.is_tup_list, ↓Mir.is_tup_bool, ↓Mir.is_tup_int, ↓Mir.is_tup_str, ↓Mir.it_lst, ↓Mir.it_tup, ↓Mir.z_lst, ↓Mir.z_tup, ↓Mir.s_nil, ↓Mir.s_set, ↓Mir.s_expr, ↓Mir.s_ret, ↓Mir.s_retN, ↓Mir.s_pass, ↓Mir.s_brk, ↓Mir.ifS_t, ↓Mir.ifS_f, ↓Mir.s_if, ↓Mir.s_for, ↓Mir.s_while, ↓Mir.s_app0, ↓Mir.appE_0, ↓Mir.s_ext0, ↓Mir.extE_0, ↓Mir.setE_0, ↓Mir.s_app1, ↓Mir.appE_1, ↓Mir.s_ext1, ↓Mir.extE_1, ↓Mir.setE_1, ↓Mir.s_app2, ↓Mir.appE_2, ↓Mir.s_ext2, ↓Mir.extE_2, ↓Mir.setE_2, ↓Mir.s_app3, ↓Mir.appE_3, ↓Mir.s_ext3, ↓Mir.extE_3, ↓Mir.setE_3, ↓Mir.s_app4, ↓Mir.appE_4, ↓Mir.s_ext4, ↓Mir.extE_4, ↓Mir.setE_4, ↓Mir.s_app5, ↓Mir.appE_5, ↓Mir.s_ext5, ↓Mir.extE_5, ↓Mir.setE_5, ↓Mir.s_app6, ↓Mir.appE_6, ↓Mir.s_ext6, ↓Mir.extE_6, ↓Mir.setE_6, ↓Mir.s_app7, ↓Mir.appE_7, ↓Mir.s_ext7, ↓Mir.extE_7, ↓Mir.setE_7, ↓Mir.s_app8, ↓Mir.appE_8, ↓Mir.s_ext8, ↓Mir.extE_8, ↓Mir.setE_8, ↓Mir.s_app9, ↓Mir.appE_9, ↓Mir.s_ext9, ↓Mir.extE_9, ↓Mir.setE_9, ↓Mir.s_app10, ↓Mir.appE_10, ↓Mir.s_ext10, ↓Mir.extE_10, ↓Mir.setE_10, ↓Mir.s_app11, ↓Mir.appE_11, ↓Mir.s_ext11, ↓Mir.extE_11, ↓Mir.setE_11, ↓Mir.s_app12, ↓Mir.appE_12, ↓Mir.s_ext12, ↓Mir.extE_12, ↓Mir.setE_12, ↓Mir.s_app13, ↓Mir.appE_13, ↓Mir.s_ext13, ↓Mir.extE_13, ↓Mir.setE_13, ↓Mir.s_app14, ↓Mir.appE_14, ↓Mir.s_ext14, ↓Mir.extE_14, ↓Mir.setE_14, ↓Mir.s_app15, ↓Mir.appE_15, ↓Mir.s_ext15, ↓Mir.extE_15, ↓Mir.setE_15, ↓Mir.s_app16, ↓Mir.appE_16, ↓Mir.s_ext16, ↓Mir.extE_16, ↓Mir.setE_16, ↓Mir.s_app17, ↓Mir.appE_17, ↓Mir.s_ext17, ↓Mir.extE_17, ↓Mir.setE_17, ↓Mir.s_app18, ↓Mir.appE_18, ↓Mir.s_ext18, ↓Mir.extE_18, ↓Mir.setE_18, ↓Mir.s_app19, ↓Mir.appE_19, ↓Mir.s_ext19, ↓Mir.extE_19, ↓Mir.setE_19, ↓Mir.s_app20, ↓Mir.appE_20, ↓Mir.s_ext20, ↓Mir.extE_20, ↓Mir.setE_20, ↓Mir.s_app21, ↓Mir.appE_21, ↓Mir.s_ext21, ↓Mir.extE_21, ↓Mir.setE_21, ↓Mir.s_app22, ↓Mir.appE_22, ↓Mir.s_ext22, ↓Mir.extE_22, ↓Mir.setE_22, ↓Mir.s_app23, ↓Mir.appE_23, ↓Mir.s_ext23, ↓Mir.extE_23, ↓Mir.setE_23, ↓Mir.s_app24, ↓Mir.appE_24, ↓Mir.s_ext24, ↓Mir.extE_24, ↓Mir.setE_24, ↓Mir.s_app25, ↓Mir.appE_25, ↓Mir.s_ext25, ↓Mir.extE_25, ↓Mir.setE_25, ↓Mir.ifS_not, ↓Mir.ifS_pos, ↓Mir.ifS_neg, ↓Mir.ifB_not, ↓Mir.ifB_pos, ↓Mir.ifB_neg, ↓Mir.turnC_eq, ↓Mir.shNs_nil, ↓Mir.shNs_cons, ↓Mir.shN1_ok, Mir.shN1_none, Mir.shN1_sh, Mir.wipe_nil, Mir.wipe_cons, Mir.back_nil, Mir.back_cons, List.set_cons_zero, List.set_cons_succ, List.getD_cons_zero, List.getD_cons_succ, List.map_cons, List.map_nil, ↓Mir.limK_le, ↓Mir.inRK_ok, ↓Mir.okK_ok, ↓Mir.appK_ok, ↓Mir.extK_ok, ↓Mir.finK_ret, ↓Mir.finK_next, ↓Mir.finK_for, ↓Mir.finK_while, ↓Mir.finK_comp, ↓Mir.finK_ifB, ↓Mir.finK_ifS, Mir.app_nil, Mir.app_cons, Mir.flK_next, Mir.flK_ret, Mir.flK_brk, Option.bind_none, decide_true, decide_false, Bool.not_true, Bool.not_false, Mir.pv_sh, Mir.pv_own, List.cons_append, List.nil_append, Mir.okK_ok, Int.reducePow, Int.reduceToNat, Int.reduceMul, Int.reduceAdd, Int.reduceSub, Int.reduceNeg, Nat.reducePow, Nat.reduceMul, Nat.reduceAdd, Nat.reduceSub, Int.one_mul, Int.zero_add, Int.zero_mul, ↓Mir.atI_nat, Int.toNat_natCast])
theorem may_come_k (B : List Bx) (R : List Rw) (L : List Fr) (cs : PV) {n : Nat} {γ : Type} {c : Sl → Option γ} (hn : 4 ≤ n) (hL : goodF R L) (hR : R.length ≤ 7) (h1 : 1 ≤ R.length) : (fns P n 6 [progpv B R, .tup [.tup (L.map fun f => PV.tup [.int (f.row : Int), .int (f.place : Int), .int (f.turn : Int), .tup (f.hand.map PV.int)]), cs]]).bind c = c (.own ((comers R L).map fun (b : Nat) => .int (b : Int))) := by
  obtain ⟨n, rfl⟩ : ∃ j, n = j + 1 := ⟨n - 1, by omega⟩
  have e : fns P (n + 1) 6 [progpv B R, .tup [.tup (L.map fun f => PV.tup [.int (f.row : Int), .int (f.place : Int), .int (f.turn : Int), .tup (f.hand.map PV.int)]), cs]] = some (.own ((comers R L).map fun (b : Nat) => .int (b : Int))) := by
    rw [r6, b6]
    walk_at "st4"
    have hbl := bells1_len R
    refine comp_thenF (bells1 R) (fun (k : Nat) => .int (k : Int)) (fun (k : Nat) => if enters R L k = true then some (.int (k : Int)) else none) (by rw [List.length_map]; exact bells1_eq R h1) ?_ (by omega) ?_
    · intro k hk
      have hk' := mem_bells hk
      walk_at "st4"
      exact ifB_someD Iff.rfl
    rw [filterMap_if]
    walk_at "st4"
    rfl
  rw [e]; rfl
theorem ranks_at (R : List Rw) (k : Nat) (h : k < R.length) : (R.map fun w => w.2.1).getD k 0 = (R.getD k r0w).2.1 := by
  rw [List.getD_eq_getElem?_getD, List.getElem?_map, List.getD_eq_getElem?_getD, List.getElem?_eq_getElem h]; rfl
local macro_rules | `(tactic| walk_at "st5") => `(tactic| simp (maxSteps := 4000000) (disch := first | omega | assumption | ((try simp only [List.length_cons, List.length_nil, List.length_append, List.length_map, List.length_range]); omega) | decide) only [↓rw_at, ↓pl_at, ↓fr_last, ↓lword_k, ↓Mir.k_non, ↓Mir.k_bl, ↓Mir.k_int, ↓Mir.k_str, ↓Mir.k_glob, ↓Mir.k_var_sh0, ↓Mir.k_var_own0, ↓Mir.k_var_sh1, ↓Mir.k_var_own1, ↓Mir.k_var_sh2, ↓Mir.k_var_own2, ↓Mir.k_var_sh3, ↓Mir.k_var_own3, ↓Mir.k_var_sh4, ↓Mir.k_var_own4, ↓Mir.k_var_sh5, ↓Mir.k_var_own5, ↓Mir.k_var_sh6, ↓Mir.k_var_own6, ↓Mir.k_var_sh7, ↓Mir.k_var_own7, ↓Mir.k_var_sh8, ↓Mir.k_var_own8, ↓Mir.k_var_sh9, ↓Mir.k_var_own9, ↓Mir.k_var_sh10, ↓Mir.k_var_own10, ↓Mir.k_var_sh11, ↓Mir.k_var_own11, ↓Mir.k_var_sh12, ↓Mir.k_var_own12, ↓Mir.k_var_sh13, ↓Mir.k_var_own13, ↓Mir.k_var_sh14, ↓Mir.k_var_own14, ↓Mir.k_var_sh15, ↓Mir.k_var_own15, ↓Mir.k_var_sh16, ↓Mir.k_var_own16, ↓Mir.k_var_sh17, ↓Mir.k_var_own17, ↓Mir.k_var_sh18, ↓Mir.k_var_own18, ↓Mir.k_var_sh19, ↓Mir.k_var_own19, ↓Mir.k_var_sh20, ↓Mir.k_var_own20, ↓Mir.k_var_sh21, ↓Mir.k_var_own21, ↓Mir.k_var_sh22, ↓Mir.k_var_own22, ↓Mir.k_var_sh23, ↓Mir.k_var_own23, ↓Mir.k_var_sh24, ↓Mir.k_var_own24, ↓Mir.k_var_sh25, ↓Mir.k_var_own25, ↓Mir.k_bin, ↓Mir.k_cmp, ↓Mir.ifB_t, ↓Mir.ifB_f, ↓Mir.k_chain, ↓Mir.boolK_bl, ↓Mir.intK_int, ↓Mir.k_and, ↓Mir.k_or, ↓Mir.k_not, ↓Mir.k_neg, ↓Mir.k_inv, ↓Mir.k_ife, ↓Mir.k_ix, ↓Mir.k_slc, ↓Mir.k_tup, ↓Mir.k_lst, ↓Mir.k_call, ↓Mir.callK_1, ↓Mir.callK_2, ↓Mir.callK_3, ↓Mir.callK_4, ↓Mir.callK_5, ↓Mir.callK_6, ↓Mir.callK_7, ↓Mir.callK_8, ↓Mir.callK_Int, ↓Mir.callK_Bool, ↓Mir.callK_Str, ↓Mir.callK_non, ↓Mir.k_blt, ↓Mir.k_isi, ↓Mir.k_meth, ↓Mir.k_comp, ↓Mir.k_no, ↓Mir.k_some, ↓Mir.k_yes, ↓Mir.k_on, ↓Mir.k_nil, ↓Mir.k_cons, ↓Mir.t_val, ↓Mir.t_cmp, ↓Mir.t_chain, ↓Mir.t_and, ↓Mir.t_or, ↓Mir.t_not, ↓Mir.i_val, ↓Mir.i_range1, ↓Mir.i_range2, ↓Mir.lstK_lst, ↓Mir.i_enum, ↓Mir.seqK_lst, ↓Mir.seqK_tup, ↓Mir.i_rev, ↓Mir.i_zip, ↓Mir.p_sh, ↓Mir.p_own, ↓Mir.ps_nil, ↓Mir.ps_cons, ↓Mir.f_sh, ↓Mir.f_own, ↓Mir.fs_nil, ↓Mir.fs_cons, ↓Mir.fo_t, ↓Mir.p_b_own0, ↓Mir.p_b_sh0, ↓Mir.f_b0, ↓Mir.fo_b0, ↓Mir.p_b_own1, ↓Mir.p_b_sh1, ↓Mir.f_b1, ↓Mir.fo_b1, ↓Mir.p_b_own2, ↓Mir.p_b_sh2, ↓Mir.f_b2, ↓Mir.fo_b2, ↓Mir.p_b_own3, ↓Mir.p_b_sh3, ↓Mir.f_b3, ↓Mir.fo_b3, ↓Mir.p_b_own4, ↓Mir.p_b_sh4, ↓Mir.f_b4, ↓Mir.fo_b4, ↓Mir.p_b_own5, ↓Mir.p_b_sh5, ↓Mir.f_b5, ↓Mir.fo_b5, ↓Mir.p_b_own6, ↓Mir.p_b_sh6, ↓Mir.f_b6, ↓Mir.fo_b6, ↓Mir.p_b_own7, ↓Mir.p_b_sh7, ↓Mir.f_b7, ↓Mir.fo_b7, ↓Mir.p_b_own8, ↓Mir.p_b_sh8, ↓Mir.f_b8, ↓Mir.fo_b8, ↓Mir.p_b_own9, ↓Mir.p_b_sh9, ↓Mir.f_b9, ↓Mir.fo_b9, ↓Mir.p_b_own10, ↓Mir.p_b_sh10, ↓Mir.f_b10, ↓Mir.fo_b10, ↓Mir.p_b_own11, ↓Mir.p_b_sh11, ↓Mir.f_b11, ↓Mir.fo_b11, ↓Mir.p_b_own12, ↓Mir.p_b_sh12, ↓Mir.f_b12, ↓Mir.fo_b12, ↓Mir.p_b_own13, ↓Mir.p_b_sh13, ↓Mir.f_b13, ↓Mir.fo_b13, ↓Mir.p_b_own14, ↓Mir.p_b_sh14, ↓Mir.f_b14, ↓Mir.fo_b14, ↓Mir.p_b_own15, ↓Mir.p_b_sh15, ↓Mir.f_b15, ↓Mir.fo_b15, ↓Mir.p_b_own16, ↓Mir.p_b_sh16, ↓Mir.f_b16, ↓Mir.fo_b16, ↓Mir.p_b_own17, ↓Mir.p_b_sh17, ↓Mir.f_b17, ↓Mir.fo_b17, ↓Mir.p_b_own18, ↓Mir.p_b_sh18, ↓Mir.f_b18, ↓Mir.fo_b18, ↓Mir.p_b_own19, ↓Mir.p_b_sh19, ↓Mir.f_b19, ↓Mir.fo_b19, ↓Mir.p_b_own20, ↓Mir.p_b_sh20, ↓Mir.f_b20, ↓Mir.fo_b20, ↓Mir.p_b_own21, ↓Mir.p_b_sh21, ↓Mir.f_b21, ↓Mir.fo_b21, ↓Mir.p_b_own22, ↓Mir.p_b_sh22, ↓Mir.f_b22, ↓Mir.fo_b22, ↓Mir.p_b_own23, ↓Mir.p_b_sh23, ↓Mir.f_b23, ↓Mir.fo_b23, ↓Mir.p_b_own24, ↓Mir.p_b_sh24, ↓Mir.f_b24, ↓Mir.fo_b24, ↓Mir.p_b_own25, ↓Mir.p_b_sh25, ↓Mir.f_b25, ↓Mir.fo_b25, ↓Mir.pv_sh, ↓Mir.pv_own, ↓Mir.bt_name0, ↓Mir.sa_0, ↓Mir.bt_name1, ↓Mir.sa_1, ↓Mir.bt_name2, ↓Mir.sa_2, ↓Mir.bt_name3, ↓Mir.sa_3, ↓Mir.bt_name4, ↓Mir.sa_4, ↓Mir.bt_name5, ↓Mir.sa_5, ↓Mir.bt_name6, ↓Mir.sa_6, ↓Mir.bt_name7, ↓Mir.sa_7, ↓Mir.bt_name8, ↓Mir.sa_8, ↓Mir.bt_name9, ↓Mir.sa_9, ↓Mir.bt_name10, ↓Mir.sa_10, ↓Mir.bt_name11, ↓Mir.sa_11, ↓Mir.bt_name12, ↓Mir.sa_12, ↓Mir.bt_name13, ↓Mir.sa_13, ↓Mir.bt_name14, ↓Mir.sa_14, ↓Mir.bt_name15, ↓Mir.sa_15, ↓Mir.bt_name16, ↓Mir.sa_16, ↓Mir.bt_name17, ↓Mir.sa_17, ↓Mir.bt_name18, ↓Mir.sa_18, ↓Mir.bt_name19, ↓Mir.sa_19, ↓Mir.bt_name20, ↓Mir.sa_20, ↓Mir.bt_name21, ↓Mir.sa_21, ↓Mir.bt_name22, ↓Mir.sa_22, ↓Mir.bt_name23, ↓Mir.sa_23, ↓Mir.bt_name24, ↓Mir.sa_24, ↓Mir.bt_name25, ↓Mir.sa_25, ↓Mir.sa_end, ↓Mir.bt_tup, ↓Mir.b_Add, ↓Mir.b_Sub, ↓Mir.b_BitAnd, ↓Mir.b_BitOr, ↓Mir.b_BitXor, ↓Mir.b_Mult, ↓Mir.b_Mod, ↓Mir.b_FloorDiv, ↓Mir.b_Pow, ↓Mir.b_LShift, ↓Mir.b_RShift, ↓Mir.b_Add_str, ↓Mir.b_Add_lst, ↓Mir.b_Add_tup, ↓Mir.c_Lt, ↓Mir.c_LtE, ↓Mir.c_Gt, ↓Mir.c_GtE, ↓Mir.c_Eq, ↓Mir.c_NotEq, ↓Mir.c_Eq_str, ↓Mir.c_NotEq_str, ↓Mir.c_Eq_bl, ↓Mir.c_NotEq_bl, ↓Mir.c_Eq_int_str, ↓Mir.c_NotEq_int_str, ↓Mir.c_Eq_str_int, ↓Mir.c_NotEq_str_int, ↓Mir.c_Eq_bl_str, ↓Mir.c_NotEq_bl_str, ↓Mir.c_Eq_str_bl, ↓Mir.c_NotEq_str_bl, ↓Mir.c_Eq_int_non, ↓Mir.c_NotEq_int_non, ↓Mir.c_Eq_str_non, ↓Mir.c_NotEq_str_non, ↓Mir.c_Eq_bl_non, ↓Mir.c_NotEq_bl_non, ↓Mir.c_Is_int, ↓Mir.c_IsNot_int, ↓Mir.c_Is_str, ↓Mir.c_IsNot_str, ↓Mir.c_Is_bl, ↓Mir.c_IsNot_bl, ↓Mir.c_Is_tup, ↓Mir.c_IsNot_tup, ↓Mir.c_Is_lst, ↓Mir.c_IsNot_lst, ↓Mir.c_Is_non, ↓Mir.c_IsNot_non, ↓Mir.c_In, ↓Mir.c_NotIn, ↓Mir.tr_bl, ↓Mir.tr_int, ↓Mir.tr_lst, ↓Mir.tr_tup, ↓Mir.tr_non, ↓Mir.x_lst, ↓Mir.x_tup, ↓Mir.at_0, ↓Mir.at_1, ↓Mir.at_2, ↓Mir.at_3, ↓Mir.at_4, ↓Mir.at_5, ↓Mir.at_6, ↓Mir.at_7, ↓Mir.sl_lst, ↓Mir.sl_tup, ↓Mir.bl_len_lst, ↓Mir.bl_len_tup, ↓Mir.bl_abs, ↓Mir.bl_max, ↓Mir.bl_min, ↓Mir.bl_int_int, ↓Mir.bl_int_bl, ↓Mir.bl_list_lst, ↓Mir.bl_list_tup, ↓Mir.bl_tuple_lst, ↓Mir.bl_tuple_tup, ↓Mir.bl_sum, ↓Mir.bl_all, ↓Mir.bl_any, ↓Mir.bl_sorted, ↓Mir.as_ints, ↓Mir.as_bls, ↓Mir.as_strs, ↓Mir.is_non_tuple, ↓Mir.is_non_list, ↓Mir.is_non_bool, ↓Mir.is_non_int, ↓Mir.is_non_str, ↓Mir.is_bl_tuple, ↓Mir.is_bl_list, ↓Mir.is_bl_bool, ↓Mir.is_bl_int, ↓Mir.is_bl_str, ↓Mir.is_int_tuple, ↓Mir.is_int_list, ↓Mir.is_int_bool, ↓Mir.is_int_int, ↓Mir.is_int_str, ↓Mir.is_str_tuple, ↓Mir.is_str_list, ↓Mir.is_str_bool, ↓Mir.is_str_int, ↓Mir.is_str_str, ↓Mir.is_lst_tuple, ↓Mir.is_lst_list, ↓Mir.is_lst_bool, ↓Mir.is_lst_int, ↓Mir.is_lst_str, ↓Mir.is_tup_tuple, ↓Mir.is_tup_list, ↓Mir.is_tup_bool, ↓Mir.is_tup_int, ↓Mir.is_tup_str, ↓Mir.it_lst, ↓Mir.it_tup, ↓Mir.z_lst, ↓Mir.z_tup, ↓Mir.s_nil, ↓Mir.s_set, ↓Mir.s_expr, ↓Mir.s_ret, ↓Mir.s_retN, ↓Mir.s_pass, ↓Mir.s_brk, ↓Mir.ifS_t, ↓Mir.ifS_f, ↓Mir.s_if, ↓Mir.s_for, ↓Mir.s_while, ↓Mir.s_app0, ↓Mir.appE_0, ↓Mir.s_ext0, ↓Mir.extE_0, ↓Mir.setE_0, ↓Mir.s_app1, ↓Mir.appE_1, ↓Mir.s_ext1, ↓Mir.extE_1, ↓Mir.setE_1, ↓Mir.s_app2, ↓Mir.appE_2, ↓Mir.s_ext2, ↓Mir.extE_2, ↓Mir.setE_2, ↓Mir.s_app3, ↓Mir.appE_3, ↓Mir.s_ext3, ↓Mir.extE_3, ↓Mir.setE_3, ↓Mir.s_app4, ↓Mir.appE_4, ↓Mir.s_ext4, ↓Mir.extE_4, ↓Mir.setE_4, ↓Mir.s_app5, ↓Mir.appE_5, ↓Mir.s_ext5, ↓Mir.extE_5, ↓Mir.setE_5, ↓Mir.s_app6, ↓Mir.appE_6, ↓Mir.s_ext6, ↓Mir.extE_6, ↓Mir.setE_6, ↓Mir.s_app7, ↓Mir.appE_7, ↓Mir.s_ext7, ↓Mir.extE_7, ↓Mir.setE_7, ↓Mir.s_app8, ↓Mir.appE_8, ↓Mir.s_ext8, ↓Mir.extE_8, ↓Mir.setE_8, ↓Mir.s_app9, ↓Mir.appE_9, ↓Mir.s_ext9, ↓Mir.extE_9, ↓Mir.setE_9, ↓Mir.s_app10, ↓Mir.appE_10, ↓Mir.s_ext10, ↓Mir.extE_10, ↓Mir.setE_10, ↓Mir.s_app11, ↓Mir.appE_11, ↓Mir.s_ext11, ↓Mir.extE_11, ↓Mir.setE_11, ↓Mir.s_app12, ↓Mir.appE_12, ↓Mir.s_ext12, ↓Mir.extE_12, ↓Mir.setE_12, ↓Mir.s_app13, ↓Mir.appE_13, ↓Mir.s_ext13, ↓Mir.extE_13, ↓Mir.setE_13, ↓Mir.s_app14, ↓Mir.appE_14, ↓Mir.s_ext14, ↓Mir.extE_14, ↓Mir.setE_14, ↓Mir.s_app15, ↓Mir.appE_15, ↓Mir.s_ext15, ↓Mir.extE_15, ↓Mir.setE_15, ↓Mir.s_app16, ↓Mir.appE_16, ↓Mir.s_ext16, ↓Mir.extE_16, ↓Mir.setE_16, ↓Mir.s_app17, ↓Mir.appE_17, ↓Mir.s_ext17, ↓Mir.extE_17, ↓Mir.setE_17, ↓Mir.s_app18, ↓Mir.appE_18, ↓Mir.s_ext18, ↓Mir.extE_18, ↓Mir.setE_18, ↓Mir.s_app19, ↓Mir.appE_19, ↓Mir.s_ext19, ↓Mir.extE_19, ↓Mir.setE_19, ↓Mir.s_app20, ↓Mir.appE_20, ↓Mir.s_ext20, ↓Mir.extE_20, ↓Mir.setE_20, ↓Mir.s_app21, ↓Mir.appE_21, ↓Mir.s_ext21, ↓Mir.extE_21, ↓Mir.setE_21, ↓Mir.s_app22, ↓Mir.appE_22, ↓Mir.s_ext22, ↓Mir.extE_22, ↓Mir.setE_22, ↓Mir.s_app23, ↓Mir.appE_23, ↓Mir.s_ext23, ↓Mir.extE_23, ↓Mir.setE_23, ↓Mir.s_app24, ↓Mir.appE_24, ↓Mir.s_ext24, ↓Mir.extE_24, ↓Mir.setE_24, ↓Mir.s_app25, ↓Mir.appE_25, ↓Mir.s_ext25, ↓Mir.extE_25, ↓Mir.setE_25, ↓Mir.ifS_not, ↓Mir.ifS_pos, ↓Mir.ifS_neg, ↓Mir.ifB_not, ↓Mir.ifB_pos, ↓Mir.ifB_neg, ↓Mir.turnC_eq, ↓Mir.shNs_nil, ↓Mir.shNs_cons, ↓Mir.shN1_ok, Mir.shN1_none, Mir.shN1_sh, Mir.wipe_nil, Mir.wipe_cons, Mir.back_nil, Mir.back_cons, List.set_cons_zero, List.set_cons_succ, List.getD_cons_zero, List.getD_cons_succ, List.map_cons, List.map_nil, ↓Mir.limK_le, ↓Mir.inRK_ok, ↓Mir.okK_ok, ↓Mir.appK_ok, ↓Mir.extK_ok, ↓Mir.finK_ret, ↓Mir.finK_next, ↓Mir.finK_for, ↓Mir.finK_while, ↓Mir.finK_comp, ↓Mir.finK_ifB, ↓Mir.finK_ifS, Mir.app_nil, Mir.app_cons, Mir.flK_next, Mir.flK_ret, Mir.flK_brk, Option.bind_none, decide_true, decide_false, Bool.not_true, Bool.not_false, Mir.pv_sh, Mir.pv_own, List.cons_append, List.nil_append, Mir.okK_ok, Int.reducePow, Int.reduceToNat, Int.reduceMul, Int.reduceAdd, Int.reduceSub, Int.reduceNeg, Nat.reducePow, Nat.reduceMul, Nat.reduceAdd, Nat.reduceSub, Int.one_mul, Int.zero_add, Int.zero_mul, ↓Mir.atI_nat, Int.toNat_natCast])
theorem comers_k (B : List Bx) (R : List Rw) (L : List Fr) {n : Nat} {γ : Type} {c : Sl → Option γ} (hn : 4 ≤ n) (hL : goodF R L) (hR : R.length ≤ 7) (h1 : 1 ≤ R.length) : (fns P n 15 [progpv B R, .tup (L.map fun f => PV.tup [.int (f.row : Int), .int (f.place : Int), .int (f.turn : Int), .tup (f.hand.map PV.int)])]).bind c = c (.own ((comers R L).map fun (b : Nat) => .int (b : Int))) := by
  obtain ⟨n, rfl⟩ : ∃ j, n = j + 1 := ⟨n - 1, by omega⟩
  have h0 := hL.1
  have hl : (L.getD (L.length - 1) f0r).row < R.length := (hL.2.2 _ (getD_mem (by omega))).1
  have e : fns P (n + 1) 15 [progpv B R, .tup (L.map fun f => PV.tup [.int (f.row : Int), .int (f.place : Int), .int (f.turn : Int), .tup (f.hand.map PV.int)])] = some (.own ((comers R L).map fun (b : Nat) => .int (b : Int))) := by
    rw [r15, b15]
    walk_at "st5"
    refine for_go L (fun f => PV.tup [.int (f.row : Int), .int (f.place : Int), .int (f.turn : Int), .tup (f.hand.map PV.int)]) (fun pre e => ∃ j, e = [some (.sh (progpv B R)), some (.sh (.tup (L.map fun f => PV.tup [.int (f.row : Int), .int (f.place : Int), .int (f.turn : Int), .tup (f.hand.map PV.int)]))), some (.sh (.int (shutBy R pre))), j, none, none, none, none]) rfl ⟨_, rfl⟩ ?_ ?_
    · rintro pre z q e hz ⟨j, rfl⟩
      obtain ⟨h1, h2⟩ := hL.2.2 z (by rw [hz]; simp)
      have es : shutBy R (pre ++ [z]) = Builtin.bitOr (shutBy R pre) (wordAt R z.row z.place) := by unfold shutBy; rw [List.foldl_append]; rfl
      rw [es]
      walk_at "st5"
      exact ⟨_, rfl, _, rfl⟩
    rintro e ⟨j, rfl⟩
    walk_at "st5"
    refine comp_then R (fun w => PV.tup [.str w.1, .int w.2.1, .tup (w.2.2.map fun q => PV.tup [q.1.pv, .int q.2])]) (fun w => .int w.2.1) rfl ?_ (by omega) ?_
    · intro w hw
      walk_at "st5"
    have hm : (R.map fun w => PV.int w.2.1) = (R.map fun w => w.2.1).map PV.int := by rw [List.map_map]; rfl
    rw [hm]
    have hml : (R.map fun w => w.2.1).length = R.length := List.length_map ..
    walk_at "st5"
    have hbl := bells1_len R
    refine comp_thenF (bells1 R) (fun (k : Nat) => .int (k : Int)) (fun (k : Nat) => if enters R L k = true then some (.int (k : Int)) else none) (by rw [List.length_map, hml]; exact bells1_eq R h1) ?_ (by omega) ?_
    · intro k hk
      have hk' := mem_bells hk
      have ps := pow_small (z := k) (by omega)
      have ps' : (0 : Int) < 2 ^ ((k : Int)).toNat ∧ (2 : Int) ^ ((k : Int)).toNat ≤ 64 := by rw [Int.toNat_natCast]; exact ps
      walk_at "st5"
      rw [ranks_at R k hk', ifB_and]
      exact ifB_someD (by unfold enters lastF; simp only [Bool.and_eq_true, decide_eq_true_eq, div_zero])
    rw [filterMap_if]
    walk_at "st5"
    rfl
  rw [e]; rfl
abbrev frpv (f : Fr) : PV := .tup [.int (f.row : Int), .int (f.place : Int), .int (f.turn : Int), .tup (f.hand.map PV.int)]
/-- the cells as they start -/
def allS (B : List Bx) (x : Nat) : List Int := (B.take x).flatMap (·.2)
theorem allS_succ (B : List Bx) (x : Nat) (h : x < B.length) : allS B (x + 1) = allS B x ++ (B.getD x e0).2 := by
  unfold allS
  rw [take_next B e0 x h, List.flatMap_append]
  simp
theorem bz_le (B : List Bx) (hB : goodB B) (x : Nat) : bz B x ≤ 2 := by
  unfold bz
  rcases Nat.lt_or_ge x B.length with h | h
  · exact (hB.2 _ (getD_mem h)).2
  · rw [List.getD_eq_getElem?_getD, List.getElem?_eq_none h]; exact Nat.zero_le _
theorem allS_len (B : List Bx) (hB : goodB B) : ∀ x, x ≤ B.length → (allS B x).length ≤ 2 * x
  | 0, _ => by simp [allS]
  | x + 1, h => by
    have := allS_len B hB x (by omega)
    have := bz_le B hB x
    unfold bz at this
    rw [allS_succ B x (by omega), List.length_append]
    omega
theorem starts_k {B : List Bx} {n : Nat} {γ : Type} {c : Sl → Option γ} (hn : 1 ≤ n) (hB : goodB B) : (fns P n 0 [.tup (B.map fun b => PV.tup [.str b.1, .tup (b.2.map PV.int)])]).bind c = c (.sh (.tup ((allS B B.length).map PV.int))) := by
  obtain ⟨n, rfl⟩ : ∃ j, n = j + 1 := ⟨n - 1, by omega⟩
  have hB8 := hB.1
  have e : fns P (n + 1) 0 [.tup (B.map fun b => PV.tup [.str b.1, .tup (b.2.map PV.int)])] = some (.sh (.tup ((allS B B.length).map PV.int))) := by
    rw [r0, b0]
    walk_at "mir"
    refine for_list B e0 (fun b => .tup [.str b.1, .tup (b.2.map PV.int)]) (fun i e => ∃ j, e = [some (.sh (.tup (B.map fun b => PV.tup [.str b.1, .tup (b.2.map PV.int)]))), some (.own ((allS B i).map PV.int)), j]) rfl ⟨_, rfl⟩ ?_ ?_
    · rintro i e hi ⟨j, rfl⟩
      have h1 := allS_len B hB i (by omega)
      have h2 := bz_le B hB i
      unfold bz at h2
      have h3 : ((allS B i).map PV.int).length + ((B.getD i e0).2.map PV.int).length ≤ 16777216 := by rw [List.length_map, List.length_map]; omega
      rw [allS_succ B i hi, List.map_append]
      walk_at "mir"
      exact ⟨_, rfl, _, rfl⟩
    · rintro e ⟨j, rfl⟩
      walk_at "mir"
  rw [e]; rfl
local macro_rules | `(tactic| walk_at "s0") => `(tactic| simp (maxSteps := 4000000) (disch := first | omega | assumption | ((try simp only [List.length_cons, List.length_nil, List.length_append, List.length_map, List.length_range]); omega) | decide) only [↓starts_k, ↓Mir.k_non, ↓Mir.k_bl, ↓Mir.k_int, ↓Mir.k_str, ↓Mir.k_glob, ↓Mir.k_var_sh0, ↓Mir.k_var_own0, ↓Mir.k_var_sh1, ↓Mir.k_var_own1, ↓Mir.k_var_sh2, ↓Mir.k_var_own2, ↓Mir.k_var_sh3, ↓Mir.k_var_own3, ↓Mir.k_var_sh4, ↓Mir.k_var_own4, ↓Mir.k_var_sh5, ↓Mir.k_var_own5, ↓Mir.k_var_sh6, ↓Mir.k_var_own6, ↓Mir.k_var_sh7, ↓Mir.k_var_own7, ↓Mir.k_var_sh8, ↓Mir.k_var_own8, ↓Mir.k_var_sh9, ↓Mir.k_var_own9, ↓Mir.k_var_sh10, ↓Mir.k_var_own10, ↓Mir.k_var_sh11, ↓Mir.k_var_own11, ↓Mir.k_var_sh12, ↓Mir.k_var_own12, ↓Mir.k_var_sh13, ↓Mir.k_var_own13, ↓Mir.k_var_sh14, ↓Mir.k_var_own14, ↓Mir.k_var_sh15, ↓Mir.k_var_own15, ↓Mir.k_var_sh16, ↓Mir.k_var_own16, ↓Mir.k_var_sh17, ↓Mir.k_var_own17, ↓Mir.k_var_sh18, ↓Mir.k_var_own18, ↓Mir.k_var_sh19, ↓Mir.k_var_own19, ↓Mir.k_var_sh20, ↓Mir.k_var_own20, ↓Mir.k_var_sh21, ↓Mir.k_var_own21, ↓Mir.k_var_sh22, ↓Mir.k_var_own22, ↓Mir.k_var_sh23, ↓Mir.k_var_own23, ↓Mir.k_var_sh24, ↓Mir.k_var_own24, ↓Mir.k_var_sh25, ↓Mir.k_var_own25, ↓Mir.k_bin, ↓Mir.k_cmp, ↓Mir.ifB_t, ↓Mir.ifB_f, ↓Mir.k_chain, ↓Mir.boolK_bl, ↓Mir.intK_int, ↓Mir.k_and, ↓Mir.k_or, ↓Mir.k_not, ↓Mir.k_neg, ↓Mir.k_inv, ↓Mir.k_ife, ↓Mir.k_ix, ↓Mir.k_slc, ↓Mir.k_tup, ↓Mir.k_lst, ↓Mir.k_call, ↓Mir.callK_1, ↓Mir.callK_2, ↓Mir.callK_3, ↓Mir.callK_4, ↓Mir.callK_5, ↓Mir.callK_6, ↓Mir.callK_7, ↓Mir.callK_8, ↓Mir.callK_Int, ↓Mir.callK_Bool, ↓Mir.callK_Str, ↓Mir.callK_non, ↓Mir.k_blt, ↓Mir.k_isi, ↓Mir.k_meth, ↓Mir.k_comp, ↓Mir.k_no, ↓Mir.k_some, ↓Mir.k_yes, ↓Mir.k_on, ↓Mir.k_nil, ↓Mir.k_cons, ↓Mir.t_val, ↓Mir.t_cmp, ↓Mir.t_chain, ↓Mir.t_and, ↓Mir.t_or, ↓Mir.t_not, ↓Mir.i_val, ↓Mir.i_range1, ↓Mir.i_range2, ↓Mir.lstK_lst, ↓Mir.i_enum, ↓Mir.seqK_lst, ↓Mir.seqK_tup, ↓Mir.i_rev, ↓Mir.i_zip, ↓Mir.p_sh, ↓Mir.p_own, ↓Mir.ps_nil, ↓Mir.ps_cons, ↓Mir.f_sh, ↓Mir.f_own, ↓Mir.fs_nil, ↓Mir.fs_cons, ↓Mir.fo_t, ↓Mir.p_b_own0, ↓Mir.p_b_sh0, ↓Mir.f_b0, ↓Mir.fo_b0, ↓Mir.p_b_own1, ↓Mir.p_b_sh1, ↓Mir.f_b1, ↓Mir.fo_b1, ↓Mir.p_b_own2, ↓Mir.p_b_sh2, ↓Mir.f_b2, ↓Mir.fo_b2, ↓Mir.p_b_own3, ↓Mir.p_b_sh3, ↓Mir.f_b3, ↓Mir.fo_b3, ↓Mir.p_b_own4, ↓Mir.p_b_sh4, ↓Mir.f_b4, ↓Mir.fo_b4, ↓Mir.p_b_own5, ↓Mir.p_b_sh5, ↓Mir.f_b5, ↓Mir.fo_b5, ↓Mir.p_b_own6, ↓Mir.p_b_sh6, ↓Mir.f_b6, ↓Mir.fo_b6, ↓Mir.p_b_own7, ↓Mir.p_b_sh7, ↓Mir.f_b7, ↓Mir.fo_b7, ↓Mir.p_b_own8, ↓Mir.p_b_sh8, ↓Mir.f_b8, ↓Mir.fo_b8, ↓Mir.p_b_own9, ↓Mir.p_b_sh9, ↓Mir.f_b9, ↓Mir.fo_b9, ↓Mir.p_b_own10, ↓Mir.p_b_sh10, ↓Mir.f_b10, ↓Mir.fo_b10, ↓Mir.p_b_own11, ↓Mir.p_b_sh11, ↓Mir.f_b11, ↓Mir.fo_b11, ↓Mir.p_b_own12, ↓Mir.p_b_sh12, ↓Mir.f_b12, ↓Mir.fo_b12, ↓Mir.p_b_own13, ↓Mir.p_b_sh13, ↓Mir.f_b13, ↓Mir.fo_b13, ↓Mir.p_b_own14, ↓Mir.p_b_sh14, ↓Mir.f_b14, ↓Mir.fo_b14, ↓Mir.p_b_own15, ↓Mir.p_b_sh15, ↓Mir.f_b15, ↓Mir.fo_b15, ↓Mir.p_b_own16, ↓Mir.p_b_sh16, ↓Mir.f_b16, ↓Mir.fo_b16, ↓Mir.p_b_own17, ↓Mir.p_b_sh17, ↓Mir.f_b17, ↓Mir.fo_b17, ↓Mir.p_b_own18, ↓Mir.p_b_sh18, ↓Mir.f_b18, ↓Mir.fo_b18, ↓Mir.p_b_own19, ↓Mir.p_b_sh19, ↓Mir.f_b19, ↓Mir.fo_b19, ↓Mir.p_b_own20, ↓Mir.p_b_sh20, ↓Mir.f_b20, ↓Mir.fo_b20, ↓Mir.p_b_own21, ↓Mir.p_b_sh21, ↓Mir.f_b21, ↓Mir.fo_b21, ↓Mir.p_b_own22, ↓Mir.p_b_sh22, ↓Mir.f_b22, ↓Mir.fo_b22, ↓Mir.p_b_own23, ↓Mir.p_b_sh23, ↓Mir.f_b23, ↓Mir.fo_b23, ↓Mir.p_b_own24, ↓Mir.p_b_sh24, ↓Mir.f_b24, ↓Mir.fo_b24, ↓Mir.p_b_own25, ↓Mir.p_b_sh25, ↓Mir.f_b25, ↓Mir.fo_b25, ↓Mir.pv_sh, ↓Mir.pv_own, ↓Mir.bt_name0, ↓Mir.sa_0, ↓Mir.bt_name1, ↓Mir.sa_1, ↓Mir.bt_name2, ↓Mir.sa_2, ↓Mir.bt_name3, ↓Mir.sa_3, ↓Mir.bt_name4, ↓Mir.sa_4, ↓Mir.bt_name5, ↓Mir.sa_5, ↓Mir.bt_name6, ↓Mir.sa_6, ↓Mir.bt_name7, ↓Mir.sa_7, ↓Mir.bt_name8, ↓Mir.sa_8, ↓Mir.bt_name9, ↓Mir.sa_9, ↓Mir.bt_name10, ↓Mir.sa_10, ↓Mir.bt_name11, ↓Mir.sa_11, ↓Mir.bt_name12, ↓Mir.sa_12, ↓Mir.bt_name13, ↓Mir.sa_13, ↓Mir.bt_name14, ↓Mir.sa_14, ↓Mir.bt_name15, ↓Mir.sa_15, ↓Mir.bt_name16, ↓Mir.sa_16, ↓Mir.bt_name17, ↓Mir.sa_17, ↓Mir.bt_name18, ↓Mir.sa_18, ↓Mir.bt_name19, ↓Mir.sa_19, ↓Mir.bt_name20, ↓Mir.sa_20, ↓Mir.bt_name21, ↓Mir.sa_21, ↓Mir.bt_name22, ↓Mir.sa_22, ↓Mir.bt_name23, ↓Mir.sa_23, ↓Mir.bt_name24, ↓Mir.sa_24, ↓Mir.bt_name25, ↓Mir.sa_25, ↓Mir.sa_end, ↓Mir.bt_tup, ↓Mir.b_Add, ↓Mir.b_Sub, ↓Mir.b_BitAnd, ↓Mir.b_BitOr, ↓Mir.b_BitXor, ↓Mir.b_Mult, ↓Mir.b_Mod, ↓Mir.b_FloorDiv, ↓Mir.b_Pow, ↓Mir.b_LShift, ↓Mir.b_RShift, ↓Mir.b_Add_str, ↓Mir.b_Add_lst, ↓Mir.b_Add_tup, ↓Mir.c_Lt, ↓Mir.c_LtE, ↓Mir.c_Gt, ↓Mir.c_GtE, ↓Mir.c_Eq, ↓Mir.c_NotEq, ↓Mir.c_Eq_str, ↓Mir.c_NotEq_str, ↓Mir.c_Eq_bl, ↓Mir.c_NotEq_bl, ↓Mir.c_Eq_int_str, ↓Mir.c_NotEq_int_str, ↓Mir.c_Eq_str_int, ↓Mir.c_NotEq_str_int, ↓Mir.c_Eq_bl_str, ↓Mir.c_NotEq_bl_str, ↓Mir.c_Eq_str_bl, ↓Mir.c_NotEq_str_bl, ↓Mir.c_Eq_int_non, ↓Mir.c_NotEq_int_non, ↓Mir.c_Eq_str_non, ↓Mir.c_NotEq_str_non, ↓Mir.c_Eq_bl_non, ↓Mir.c_NotEq_bl_non, ↓Mir.c_Is_int, ↓Mir.c_IsNot_int, ↓Mir.c_Is_str, ↓Mir.c_IsNot_str, ↓Mir.c_Is_bl, ↓Mir.c_IsNot_bl, ↓Mir.c_Is_tup, ↓Mir.c_IsNot_tup, ↓Mir.c_Is_lst, ↓Mir.c_IsNot_lst, ↓Mir.c_Is_non, ↓Mir.c_IsNot_non, ↓Mir.c_In, ↓Mir.c_NotIn, ↓Mir.tr_bl, ↓Mir.tr_int, ↓Mir.tr_lst, ↓Mir.tr_tup, ↓Mir.tr_non, ↓Mir.x_lst, ↓Mir.x_tup, ↓Mir.at_0, ↓Mir.at_1, ↓Mir.at_2, ↓Mir.at_3, ↓Mir.at_4, ↓Mir.at_5, ↓Mir.at_6, ↓Mir.at_7, ↓Mir.sl_lst, ↓Mir.sl_tup, ↓Mir.bl_len_lst, ↓Mir.bl_len_tup, ↓Mir.bl_abs, ↓Mir.bl_max, ↓Mir.bl_min, ↓Mir.bl_int_int, ↓Mir.bl_int_bl, ↓Mir.bl_list_lst, ↓Mir.bl_list_tup, ↓Mir.bl_tuple_lst, ↓Mir.bl_tuple_tup, ↓Mir.bl_sum, ↓Mir.bl_all, ↓Mir.bl_any, ↓Mir.bl_sorted, ↓Mir.as_ints, ↓Mir.as_bls, ↓Mir.as_strs, ↓Mir.is_non_tuple, ↓Mir.is_non_list, ↓Mir.is_non_bool, ↓Mir.is_non_int, ↓Mir.is_non_str, ↓Mir.is_bl_tuple, ↓Mir.is_bl_list, ↓Mir.is_bl_bool, ↓Mir.is_bl_int, ↓Mir.is_bl_str, ↓Mir.is_int_tuple, ↓Mir.is_int_list, ↓Mir.is_int_bool, ↓Mir.is_int_int, ↓Mir.is_int_str, ↓Mir.is_str_tuple, ↓Mir.is_str_list, ↓Mir.is_str_bool, ↓Mir.is_str_int, ↓Mir.is_str_str, ↓Mir.is_lst_tuple, ↓Mir.is_lst_list, ↓Mir.is_lst_bool, ↓Mir.is_lst_int, ↓Mir.is_lst_str, ↓Mir.is_tup_tuple, ↓Mir.is_tup_list, ↓Mir.is_tup_bool, ↓Mir.is_tup_int, ↓Mir.is_tup_str, ↓Mir.it_lst, ↓Mir.it_tup, ↓Mir.z_lst, ↓Mir.z_tup, ↓Mir.s_nil, ↓Mir.s_set, ↓Mir.s_expr, ↓Mir.s_ret, ↓Mir.s_retN, ↓Mir.s_pass, ↓Mir.s_brk, ↓Mir.ifS_t, ↓Mir.ifS_f, ↓Mir.s_if, ↓Mir.s_for, ↓Mir.s_while, ↓Mir.s_app0, ↓Mir.appE_0, ↓Mir.s_ext0, ↓Mir.extE_0, ↓Mir.setE_0, ↓Mir.s_app1, ↓Mir.appE_1, ↓Mir.s_ext1, ↓Mir.extE_1, ↓Mir.setE_1, ↓Mir.s_app2, ↓Mir.appE_2, ↓Mir.s_ext2, ↓Mir.extE_2, ↓Mir.setE_2, ↓Mir.s_app3, ↓Mir.appE_3, ↓Mir.s_ext3, ↓Mir.extE_3, ↓Mir.setE_3, ↓Mir.s_app4, ↓Mir.appE_4, ↓Mir.s_ext4, ↓Mir.extE_4, ↓Mir.setE_4, ↓Mir.s_app5, ↓Mir.appE_5, ↓Mir.s_ext5, ↓Mir.extE_5, ↓Mir.setE_5, ↓Mir.s_app6, ↓Mir.appE_6, ↓Mir.s_ext6, ↓Mir.extE_6, ↓Mir.setE_6, ↓Mir.s_app7, ↓Mir.appE_7, ↓Mir.s_ext7, ↓Mir.extE_7, ↓Mir.setE_7, ↓Mir.s_app8, ↓Mir.appE_8, ↓Mir.s_ext8, ↓Mir.extE_8, ↓Mir.setE_8, ↓Mir.s_app9, ↓Mir.appE_9, ↓Mir.s_ext9, ↓Mir.extE_9, ↓Mir.setE_9, ↓Mir.s_app10, ↓Mir.appE_10, ↓Mir.s_ext10, ↓Mir.extE_10, ↓Mir.setE_10, ↓Mir.s_app11, ↓Mir.appE_11, ↓Mir.s_ext11, ↓Mir.extE_11, ↓Mir.setE_11, ↓Mir.s_app12, ↓Mir.appE_12, ↓Mir.s_ext12, ↓Mir.extE_12, ↓Mir.setE_12, ↓Mir.s_app13, ↓Mir.appE_13, ↓Mir.s_ext13, ↓Mir.extE_13, ↓Mir.setE_13, ↓Mir.s_app14, ↓Mir.appE_14, ↓Mir.s_ext14, ↓Mir.extE_14, ↓Mir.setE_14, ↓Mir.s_app15, ↓Mir.appE_15, ↓Mir.s_ext15, ↓Mir.extE_15, ↓Mir.setE_15, ↓Mir.s_app16, ↓Mir.appE_16, ↓Mir.s_ext16, ↓Mir.extE_16, ↓Mir.setE_16, ↓Mir.s_app17, ↓Mir.appE_17, ↓Mir.s_ext17, ↓Mir.extE_17, ↓Mir.setE_17, ↓Mir.s_app18, ↓Mir.appE_18, ↓Mir.s_ext18, ↓Mir.extE_18, ↓Mir.setE_18, ↓Mir.s_app19, ↓Mir.appE_19, ↓Mir.s_ext19, ↓Mir.extE_19, ↓Mir.setE_19, ↓Mir.s_app20, ↓Mir.appE_20, ↓Mir.s_ext20, ↓Mir.extE_20, ↓Mir.setE_20, ↓Mir.s_app21, ↓Mir.appE_21, ↓Mir.s_ext21, ↓Mir.extE_21, ↓Mir.setE_21, ↓Mir.s_app22, ↓Mir.appE_22, ↓Mir.s_ext22, ↓Mir.extE_22, ↓Mir.setE_22, ↓Mir.s_app23, ↓Mir.appE_23, ↓Mir.s_ext23, ↓Mir.extE_23, ↓Mir.setE_23, ↓Mir.s_app24, ↓Mir.appE_24, ↓Mir.s_ext24, ↓Mir.extE_24, ↓Mir.setE_24, ↓Mir.s_app25, ↓Mir.appE_25, ↓Mir.s_ext25, ↓Mir.extE_25, ↓Mir.setE_25, ↓Mir.ifS_not, ↓Mir.ifS_pos, ↓Mir.ifS_neg, ↓Mir.ifB_not, ↓Mir.ifB_pos, ↓Mir.ifB_neg, ↓Mir.turnC_eq, ↓Mir.shNs_nil, ↓Mir.shNs_cons, ↓Mir.shN1_ok, Mir.shN1_none, Mir.shN1_sh, Mir.wipe_nil, Mir.wipe_cons, Mir.back_nil, Mir.back_cons, List.set_cons_zero, List.set_cons_succ, List.getD_cons_zero, List.getD_cons_succ, List.map_cons, List.map_nil, ↓Mir.limK_le, ↓Mir.inRK_ok, ↓Mir.okK_ok, ↓Mir.appK_ok, ↓Mir.extK_ok, ↓Mir.finK_ret, ↓Mir.finK_next, ↓Mir.finK_for, ↓Mir.finK_while, ↓Mir.finK_comp, ↓Mir.finK_ifB, ↓Mir.finK_ifS, Mir.app_nil, Mir.app_cons, Mir.flK_next, Mir.flK_ret, Mir.flK_brk, Option.bind_none, decide_true, decide_false, Bool.not_true, Bool.not_false, Mir.pv_sh, Mir.pv_own, List.cons_append, List.nil_append, Mir.okK_ok, Int.reducePow, Int.reduceToNat, Int.reduceMul, Int.reduceAdd, Int.reduceSub, Int.reduceNeg, Nat.reducePow, Nat.reduceMul, Nat.reduceAdd, Nat.reduceSub, Int.one_mul, Int.zero_add, Int.zero_mul, ↓Mir.atI_nat, Int.toNat_natCast])
theorem begin_k {B : List Bx} {R : List Rw} {n : Nat} {γ : Type} {c : Sl → Option γ} (hn : 2 ≤ n) (hB : goodB B) : (fns P n 5 [progpv B R]).bind c = c (.sh (.tup [.tup [.tup [.int 0, .int 0, .int 0, .tup []]], .tup ((allS B B.length).map PV.int)])) := by
  obtain ⟨n, rfl⟩ : ∃ j, n = j + 1 := ⟨n - 1, by omega⟩
  have e : fns P (n + 1) 5 [progpv B R] = some (.sh (.tup [.tup [.tup [.int 0, .int 0, .int 0, .tup []]], .tup ((allS B B.length).map PV.int)])) := by
    rw [r5, b5]
    walk_at "s0"
  rw [e]; rfl
theorem lbegin_k {B : List Bx} {R : List Rw} {n : Nat} {γ : Type} {c : Sl → Option γ} (hn : 2 ≤ n) (hB : goodB B) : (fns P n 16 [progpv B R]).bind c = c (.sh (.tup [.tup [.tup [.int 0, .int 0, .int 0, .tup []]], .tup ((allS B B.length).map PV.int)])) := by
  obtain ⟨n, rfl⟩ : ∃ j, n = j + 1 := ⟨n - 1, by omega⟩
  have hB8 := hB.1
  have e : fns P (n + 1) 16 [progpv B R] = some (.sh (.tup [.tup [.tup [.int 0, .int 0, .int 0, .tup []]], .tup ((allS B B.length).map PV.int)])) := by
    rw [r16, b16]
    walk_at "mir"
    refine for_list B e0 (fun b => .tup [.str b.1, .tup (b.2.map PV.int)]) (fun i e => ∃ j, e = [some (.sh (progpv B R)), some (.own ((allS B i).map PV.int)), j]) rfl ⟨_, rfl⟩ ?_ ?_
    · rintro i e hi ⟨j, rfl⟩
      have h1 := allS_len B hB i (by omega)
      have h2 := bz_le B hB i
      unfold bz at h2
      have h3 : ((allS B i).map PV.int).length + ((B.getD i e0).2.map PV.int).length ≤ 16777216 := by rw [List.length_map, List.length_map]; omega
      rw [allS_succ B i hi, List.map_append]
      walk_at "mir"
      exact ⟨_, rfl, _, rfl⟩
    · rintro e ⟨j, rfl⟩
      walk_at "mir"
  rw [e]; rfl
/-- a bell comes -/
def comeF (b : Nat) : Fr := ⟨b, 0, 0, []⟩
theorem entered_k {L : List Fr} {b : Nat} {n : Nat} {γ : Type} {c : Sl → Option γ} (hn : 1 ≤ n) (hL : L.length ≤ 1000) : (fns P n 4 [.tup (L.map fun f => PV.tup [.int (f.row : Int), .int (f.place : Int), .int (f.turn : Int), .tup (f.hand.map PV.int)]), .int b]).bind c = c (.sh (.tup ((L ++ [comeF b]).map fun f => PV.tup [.int (f.row : Int), .int (f.place : Int), .int (f.turn : Int), .tup (f.hand.map PV.int)]))) := by
  obtain ⟨n, rfl⟩ : ∃ j, n = j + 1 := ⟨n - 1, by omega⟩
  have hl : (L.map fun f => PV.tup [.int (f.row : Int), .int (f.place : Int), .int (f.turn : Int), .tup (f.hand.map PV.int)]).length = L.length := List.length_map ..
  have e : fns P (n + 1) 4 [.tup (L.map fun f => PV.tup [.int (f.row : Int), .int (f.place : Int), .int (f.turn : Int), .tup (f.hand.map PV.int)]), .int b] = some (.sh (.tup ((L ++ [comeF b]).map fun f => PV.tup [.int (f.row : Int), .int (f.place : Int), .int (f.turn : Int), .tup (f.hand.map PV.int)]))) := by
    rw [r4, b4, List.map_append]
    walk_at "mir"
    rfl
  rw [e]; rfl
local macro_rules | `(tactic| walk_at "s1") => `(tactic| simp (maxSteps := 4000000) (disch := first | omega | assumption | ((try simp only [List.length_cons, List.length_nil, List.length_append, List.length_map, List.length_range]); omega) | decide) only [↓entered_k, ↓Mir.k_non, ↓Mir.k_bl, ↓Mir.k_int, ↓Mir.k_str, ↓Mir.k_glob, ↓Mir.k_var_sh0, ↓Mir.k_var_own0, ↓Mir.k_var_sh1, ↓Mir.k_var_own1, ↓Mir.k_var_sh2, ↓Mir.k_var_own2, ↓Mir.k_var_sh3, ↓Mir.k_var_own3, ↓Mir.k_var_sh4, ↓Mir.k_var_own4, ↓Mir.k_var_sh5, ↓Mir.k_var_own5, ↓Mir.k_var_sh6, ↓Mir.k_var_own6, ↓Mir.k_var_sh7, ↓Mir.k_var_own7, ↓Mir.k_var_sh8, ↓Mir.k_var_own8, ↓Mir.k_var_sh9, ↓Mir.k_var_own9, ↓Mir.k_var_sh10, ↓Mir.k_var_own10, ↓Mir.k_var_sh11, ↓Mir.k_var_own11, ↓Mir.k_var_sh12, ↓Mir.k_var_own12, ↓Mir.k_var_sh13, ↓Mir.k_var_own13, ↓Mir.k_var_sh14, ↓Mir.k_var_own14, ↓Mir.k_var_sh15, ↓Mir.k_var_own15, ↓Mir.k_var_sh16, ↓Mir.k_var_own16, ↓Mir.k_var_sh17, ↓Mir.k_var_own17, ↓Mir.k_var_sh18, ↓Mir.k_var_own18, ↓Mir.k_var_sh19, ↓Mir.k_var_own19, ↓Mir.k_var_sh20, ↓Mir.k_var_own20, ↓Mir.k_var_sh21, ↓Mir.k_var_own21, ↓Mir.k_var_sh22, ↓Mir.k_var_own22, ↓Mir.k_var_sh23, ↓Mir.k_var_own23, ↓Mir.k_var_sh24, ↓Mir.k_var_own24, ↓Mir.k_var_sh25, ↓Mir.k_var_own25, ↓Mir.k_bin, ↓Mir.k_cmp, ↓Mir.ifB_t, ↓Mir.ifB_f, ↓Mir.k_chain, ↓Mir.boolK_bl, ↓Mir.intK_int, ↓Mir.k_and, ↓Mir.k_or, ↓Mir.k_not, ↓Mir.k_neg, ↓Mir.k_inv, ↓Mir.k_ife, ↓Mir.k_ix, ↓Mir.k_slc, ↓Mir.k_tup, ↓Mir.k_lst, ↓Mir.k_call, ↓Mir.callK_1, ↓Mir.callK_2, ↓Mir.callK_3, ↓Mir.callK_4, ↓Mir.callK_5, ↓Mir.callK_6, ↓Mir.callK_7, ↓Mir.callK_8, ↓Mir.callK_Int, ↓Mir.callK_Bool, ↓Mir.callK_Str, ↓Mir.callK_non, ↓Mir.k_blt, ↓Mir.k_isi, ↓Mir.k_meth, ↓Mir.k_comp, ↓Mir.k_no, ↓Mir.k_some, ↓Mir.k_yes, ↓Mir.k_on, ↓Mir.k_nil, ↓Mir.k_cons, ↓Mir.t_val, ↓Mir.t_cmp, ↓Mir.t_chain, ↓Mir.t_and, ↓Mir.t_or, ↓Mir.t_not, ↓Mir.i_val, ↓Mir.i_range1, ↓Mir.i_range2, ↓Mir.lstK_lst, ↓Mir.i_enum, ↓Mir.seqK_lst, ↓Mir.seqK_tup, ↓Mir.i_rev, ↓Mir.i_zip, ↓Mir.p_sh, ↓Mir.p_own, ↓Mir.ps_nil, ↓Mir.ps_cons, ↓Mir.f_sh, ↓Mir.f_own, ↓Mir.fs_nil, ↓Mir.fs_cons, ↓Mir.fo_t, ↓Mir.p_b_own0, ↓Mir.p_b_sh0, ↓Mir.f_b0, ↓Mir.fo_b0, ↓Mir.p_b_own1, ↓Mir.p_b_sh1, ↓Mir.f_b1, ↓Mir.fo_b1, ↓Mir.p_b_own2, ↓Mir.p_b_sh2, ↓Mir.f_b2, ↓Mir.fo_b2, ↓Mir.p_b_own3, ↓Mir.p_b_sh3, ↓Mir.f_b3, ↓Mir.fo_b3, ↓Mir.p_b_own4, ↓Mir.p_b_sh4, ↓Mir.f_b4, ↓Mir.fo_b4, ↓Mir.p_b_own5, ↓Mir.p_b_sh5, ↓Mir.f_b5, ↓Mir.fo_b5, ↓Mir.p_b_own6, ↓Mir.p_b_sh6, ↓Mir.f_b6, ↓Mir.fo_b6, ↓Mir.p_b_own7, ↓Mir.p_b_sh7, ↓Mir.f_b7, ↓Mir.fo_b7, ↓Mir.p_b_own8, ↓Mir.p_b_sh8, ↓Mir.f_b8, ↓Mir.fo_b8, ↓Mir.p_b_own9, ↓Mir.p_b_sh9, ↓Mir.f_b9, ↓Mir.fo_b9, ↓Mir.p_b_own10, ↓Mir.p_b_sh10, ↓Mir.f_b10, ↓Mir.fo_b10, ↓Mir.p_b_own11, ↓Mir.p_b_sh11, ↓Mir.f_b11, ↓Mir.fo_b11, ↓Mir.p_b_own12, ↓Mir.p_b_sh12, ↓Mir.f_b12, ↓Mir.fo_b12, ↓Mir.p_b_own13, ↓Mir.p_b_sh13, ↓Mir.f_b13, ↓Mir.fo_b13, ↓Mir.p_b_own14, ↓Mir.p_b_sh14, ↓Mir.f_b14, ↓Mir.fo_b14, ↓Mir.p_b_own15, ↓Mir.p_b_sh15, ↓Mir.f_b15, ↓Mir.fo_b15, ↓Mir.p_b_own16, ↓Mir.p_b_sh16, ↓Mir.f_b16, ↓Mir.fo_b16, ↓Mir.p_b_own17, ↓Mir.p_b_sh17, ↓Mir.f_b17, ↓Mir.fo_b17, ↓Mir.p_b_own18, ↓Mir.p_b_sh18, ↓Mir.f_b18, ↓Mir.fo_b18, ↓Mir.p_b_own19, ↓Mir.p_b_sh19, ↓Mir.f_b19, ↓Mir.fo_b19, ↓Mir.p_b_own20, ↓Mir.p_b_sh20, ↓Mir.f_b20, ↓Mir.fo_b20, ↓Mir.p_b_own21, ↓Mir.p_b_sh21, ↓Mir.f_b21, ↓Mir.fo_b21, ↓Mir.p_b_own22, ↓Mir.p_b_sh22, ↓Mir.f_b22, ↓Mir.fo_b22, ↓Mir.p_b_own23, ↓Mir.p_b_sh23, ↓Mir.f_b23, ↓Mir.fo_b23, ↓Mir.p_b_own24, ↓Mir.p_b_sh24, ↓Mir.f_b24, ↓Mir.fo_b24, ↓Mir.p_b_own25, ↓Mir.p_b_sh25, ↓Mir.f_b25, ↓Mir.fo_b25, ↓Mir.pv_sh, ↓Mir.pv_own, ↓Mir.bt_name0, ↓Mir.sa_0, ↓Mir.bt_name1, ↓Mir.sa_1, ↓Mir.bt_name2, ↓Mir.sa_2, ↓Mir.bt_name3, ↓Mir.sa_3, ↓Mir.bt_name4, ↓Mir.sa_4, ↓Mir.bt_name5, ↓Mir.sa_5, ↓Mir.bt_name6, ↓Mir.sa_6, ↓Mir.bt_name7, ↓Mir.sa_7, ↓Mir.bt_name8, ↓Mir.sa_8, ↓Mir.bt_name9, ↓Mir.sa_9, ↓Mir.bt_name10, ↓Mir.sa_10, ↓Mir.bt_name11, ↓Mir.sa_11, ↓Mir.bt_name12, ↓Mir.sa_12, ↓Mir.bt_name13, ↓Mir.sa_13, ↓Mir.bt_name14, ↓Mir.sa_14, ↓Mir.bt_name15, ↓Mir.sa_15, ↓Mir.bt_name16, ↓Mir.sa_16, ↓Mir.bt_name17, ↓Mir.sa_17, ↓Mir.bt_name18, ↓Mir.sa_18, ↓Mir.bt_name19, ↓Mir.sa_19, ↓Mir.bt_name20, ↓Mir.sa_20, ↓Mir.bt_name21, ↓Mir.sa_21, ↓Mir.bt_name22, ↓Mir.sa_22, ↓Mir.bt_name23, ↓Mir.sa_23, ↓Mir.bt_name24, ↓Mir.sa_24, ↓Mir.bt_name25, ↓Mir.sa_25, ↓Mir.sa_end, ↓Mir.bt_tup, ↓Mir.b_Add, ↓Mir.b_Sub, ↓Mir.b_BitAnd, ↓Mir.b_BitOr, ↓Mir.b_BitXor, ↓Mir.b_Mult, ↓Mir.b_Mod, ↓Mir.b_FloorDiv, ↓Mir.b_Pow, ↓Mir.b_LShift, ↓Mir.b_RShift, ↓Mir.b_Add_str, ↓Mir.b_Add_lst, ↓Mir.b_Add_tup, ↓Mir.c_Lt, ↓Mir.c_LtE, ↓Mir.c_Gt, ↓Mir.c_GtE, ↓Mir.c_Eq, ↓Mir.c_NotEq, ↓Mir.c_Eq_str, ↓Mir.c_NotEq_str, ↓Mir.c_Eq_bl, ↓Mir.c_NotEq_bl, ↓Mir.c_Eq_int_str, ↓Mir.c_NotEq_int_str, ↓Mir.c_Eq_str_int, ↓Mir.c_NotEq_str_int, ↓Mir.c_Eq_bl_str, ↓Mir.c_NotEq_bl_str, ↓Mir.c_Eq_str_bl, ↓Mir.c_NotEq_str_bl, ↓Mir.c_Eq_int_non, ↓Mir.c_NotEq_int_non, ↓Mir.c_Eq_str_non, ↓Mir.c_NotEq_str_non, ↓Mir.c_Eq_bl_non, ↓Mir.c_NotEq_bl_non, ↓Mir.c_Is_int, ↓Mir.c_IsNot_int, ↓Mir.c_Is_str, ↓Mir.c_IsNot_str, ↓Mir.c_Is_bl, ↓Mir.c_IsNot_bl, ↓Mir.c_Is_tup, ↓Mir.c_IsNot_tup, ↓Mir.c_Is_lst, ↓Mir.c_IsNot_lst, ↓Mir.c_Is_non, ↓Mir.c_IsNot_non, ↓Mir.c_In, ↓Mir.c_NotIn, ↓Mir.tr_bl, ↓Mir.tr_int, ↓Mir.tr_lst, ↓Mir.tr_tup, ↓Mir.tr_non, ↓Mir.x_lst, ↓Mir.x_tup, ↓Mir.at_0, ↓Mir.at_1, ↓Mir.at_2, ↓Mir.at_3, ↓Mir.at_4, ↓Mir.at_5, ↓Mir.at_6, ↓Mir.at_7, ↓Mir.sl_lst, ↓Mir.sl_tup, ↓Mir.bl_len_lst, ↓Mir.bl_len_tup, ↓Mir.bl_abs, ↓Mir.bl_max, ↓Mir.bl_min, ↓Mir.bl_int_int, ↓Mir.bl_int_bl, ↓Mir.bl_list_lst, ↓Mir.bl_list_tup, ↓Mir.bl_tuple_lst, ↓Mir.bl_tuple_tup, ↓Mir.bl_sum, ↓Mir.bl_all, ↓Mir.bl_any, ↓Mir.bl_sorted, ↓Mir.as_ints, ↓Mir.as_bls, ↓Mir.as_strs, ↓Mir.is_non_tuple, ↓Mir.is_non_list, ↓Mir.is_non_bool, ↓Mir.is_non_int, ↓Mir.is_non_str, ↓Mir.is_bl_tuple, ↓Mir.is_bl_list, ↓Mir.is_bl_bool, ↓Mir.is_bl_int, ↓Mir.is_bl_str, ↓Mir.is_int_tuple, ↓Mir.is_int_list, ↓Mir.is_int_bool, ↓Mir.is_int_int, ↓Mir.is_int_str, ↓Mir.is_str_tuple, ↓Mir.is_str_list, ↓Mir.is_str_bool, ↓Mir.is_str_int, ↓Mir.is_str_str, ↓Mir.is_lst_tuple, ↓Mir.is_lst_list, ↓Mir.is_lst_bool, ↓Mir.is_lst_int, ↓Mir.is_lst_str, ↓Mir.is_tup_tuple, ↓Mir.is_tup_list, ↓Mir.is_tup_bool, ↓Mir.is_tup_int, ↓Mir.is_tup_str, ↓Mir.it_lst, ↓Mir.it_tup, ↓Mir.z_lst, ↓Mir.z_tup, ↓Mir.s_nil, ↓Mir.s_set, ↓Mir.s_expr, ↓Mir.s_ret, ↓Mir.s_retN, ↓Mir.s_pass, ↓Mir.s_brk, ↓Mir.ifS_t, ↓Mir.ifS_f, ↓Mir.s_if, ↓Mir.s_for, ↓Mir.s_while, ↓Mir.s_app0, ↓Mir.appE_0, ↓Mir.s_ext0, ↓Mir.extE_0, ↓Mir.setE_0, ↓Mir.s_app1, ↓Mir.appE_1, ↓Mir.s_ext1, ↓Mir.extE_1, ↓Mir.setE_1, ↓Mir.s_app2, ↓Mir.appE_2, ↓Mir.s_ext2, ↓Mir.extE_2, ↓Mir.setE_2, ↓Mir.s_app3, ↓Mir.appE_3, ↓Mir.s_ext3, ↓Mir.extE_3, ↓Mir.setE_3, ↓Mir.s_app4, ↓Mir.appE_4, ↓Mir.s_ext4, ↓Mir.extE_4, ↓Mir.setE_4, ↓Mir.s_app5, ↓Mir.appE_5, ↓Mir.s_ext5, ↓Mir.extE_5, ↓Mir.setE_5, ↓Mir.s_app6, ↓Mir.appE_6, ↓Mir.s_ext6, ↓Mir.extE_6, ↓Mir.setE_6, ↓Mir.s_app7, ↓Mir.appE_7, ↓Mir.s_ext7, ↓Mir.extE_7, ↓Mir.setE_7, ↓Mir.s_app8, ↓Mir.appE_8, ↓Mir.s_ext8, ↓Mir.extE_8, ↓Mir.setE_8, ↓Mir.s_app9, ↓Mir.appE_9, ↓Mir.s_ext9, ↓Mir.extE_9, ↓Mir.setE_9, ↓Mir.s_app10, ↓Mir.appE_10, ↓Mir.s_ext10, ↓Mir.extE_10, ↓Mir.setE_10, ↓Mir.s_app11, ↓Mir.appE_11, ↓Mir.s_ext11, ↓Mir.extE_11, ↓Mir.setE_11, ↓Mir.s_app12, ↓Mir.appE_12, ↓Mir.s_ext12, ↓Mir.extE_12, ↓Mir.setE_12, ↓Mir.s_app13, ↓Mir.appE_13, ↓Mir.s_ext13, ↓Mir.extE_13, ↓Mir.setE_13, ↓Mir.s_app14, ↓Mir.appE_14, ↓Mir.s_ext14, ↓Mir.extE_14, ↓Mir.setE_14, ↓Mir.s_app15, ↓Mir.appE_15, ↓Mir.s_ext15, ↓Mir.extE_15, ↓Mir.setE_15, ↓Mir.s_app16, ↓Mir.appE_16, ↓Mir.s_ext16, ↓Mir.extE_16, ↓Mir.setE_16, ↓Mir.s_app17, ↓Mir.appE_17, ↓Mir.s_ext17, ↓Mir.extE_17, ↓Mir.setE_17, ↓Mir.s_app18, ↓Mir.appE_18, ↓Mir.s_ext18, ↓Mir.extE_18, ↓Mir.setE_18, ↓Mir.s_app19, ↓Mir.appE_19, ↓Mir.s_ext19, ↓Mir.extE_19, ↓Mir.setE_19, ↓Mir.s_app20, ↓Mir.appE_20, ↓Mir.s_ext20, ↓Mir.extE_20, ↓Mir.setE_20, ↓Mir.s_app21, ↓Mir.appE_21, ↓Mir.s_ext21, ↓Mir.extE_21, ↓Mir.setE_21, ↓Mir.s_app22, ↓Mir.appE_22, ↓Mir.s_ext22, ↓Mir.extE_22, ↓Mir.setE_22, ↓Mir.s_app23, ↓Mir.appE_23, ↓Mir.s_ext23, ↓Mir.extE_23, ↓Mir.setE_23, ↓Mir.s_app24, ↓Mir.appE_24, ↓Mir.s_ext24, ↓Mir.extE_24, ↓Mir.setE_24, ↓Mir.s_app25, ↓Mir.appE_25, ↓Mir.s_ext25, ↓Mir.extE_25, ↓Mir.setE_25, ↓Mir.ifS_not, ↓Mir.ifS_pos, ↓Mir.ifS_neg, ↓Mir.ifB_not, ↓Mir.ifB_pos, ↓Mir.ifB_neg, ↓Mir.turnC_eq, ↓Mir.shNs_nil, ↓Mir.shNs_cons, ↓Mir.shN1_ok, Mir.shN1_none, Mir.shN1_sh, Mir.wipe_nil, Mir.wipe_cons, Mir.back_nil, Mir.back_cons, List.set_cons_zero, List.set_cons_succ, List.getD_cons_zero, List.getD_cons_succ, List.map_cons, List.map_nil, ↓Mir.limK_le, ↓Mir.inRK_ok, ↓Mir.okK_ok, ↓Mir.appK_ok, ↓Mir.extK_ok, ↓Mir.finK_ret, ↓Mir.finK_next, ↓Mir.finK_for, ↓Mir.finK_while, ↓Mir.finK_comp, ↓Mir.finK_ifB, ↓Mir.finK_ifS, Mir.app_nil, Mir.app_cons, Mir.flK_next, Mir.flK_ret, Mir.flK_brk, Option.bind_none, decide_true, decide_false, Bool.not_true, Bool.not_false, Mir.pv_sh, Mir.pv_own, List.cons_append, List.nil_append, Mir.okK_ok, Int.reducePow, Int.reduceToNat, Int.reduceMul, Int.reduceAdd, Int.reduceSub, Int.reduceNeg, Nat.reducePow, Nat.reduceMul, Nat.reduceAdd, Nat.reduceSub, Int.one_mul, Int.zero_add, Int.zero_mul, ↓Mir.atI_nat, Int.toNat_natCast])
theorem come_k {B : List Bx} {R : List Rw} {L : List Fr} {b : Nat} {cs : PV} {n : Nat} {γ : Type} {c : Sl → Option γ} (hn : 2 ≤ n) (hL : L.length ≤ 1000) : (fns P n 7 [progpv B R, .tup [.tup (L.map fun f => PV.tup [.int (f.row : Int), .int (f.place : Int), .int (f.turn : Int), .tup (f.hand.map PV.int)]), cs], .int b]).bind c = c (.sh (.tup [.tup ((L ++ [comeF b]).map fun f => PV.tup [.int (f.row : Int), .int (f.place : Int), .int (f.turn : Int), .tup (f.hand.map PV.int)]), cs])) := by
  obtain ⟨n, rfl⟩ : ∃ j, n = j + 1 := ⟨n - 1, by omega⟩
  have e : fns P (n + 1) 7 [progpv B R, .tup [.tup (L.map fun f => PV.tup [.int (f.row : Int), .int (f.place : Int), .int (f.turn : Int), .tup (f.hand.map PV.int)]), cs], .int b] = some (.sh (.tup [.tup ((L ++ [comeF b]).map fun f => PV.tup [.int (f.row : Int), .int (f.place : Int), .int (f.turn : Int), .tup (f.hand.map PV.int)]), cs])) := by
    rw [r7, b7]
    walk_at "s1"
  rw [e]; rfl
theorem lcome_k {L : List Fr} {b : Nat} {cs : PV} {n : Nat} {γ : Type} {c : Sl → Option γ} (hn : 1 ≤ n) (hL : L.length ≤ 1000) : (fns P n 17 [.tup [.tup (L.map fun f => PV.tup [.int (f.row : Int), .int (f.place : Int), .int (f.turn : Int), .tup (f.hand.map PV.int)]), cs], .int b]).bind c = c (.sh (.tup [.tup ((L ++ [comeF b]).map fun f => PV.tup [.int (f.row : Int), .int (f.place : Int), .int (f.turn : Int), .tup (f.hand.map PV.int)]), cs])) := by
  obtain ⟨n, rfl⟩ : ∃ j, n = j + 1 := ⟨n - 1, by omega⟩
  have hl : (L.map fun f => PV.tup [.int (f.row : Int), .int (f.place : Int), .int (f.turn : Int), .tup (f.hand.map PV.int)]).length = L.length := List.length_map ..
  have e : fns P (n + 1) 17 [.tup [.tup (L.map fun f => PV.tup [.int (f.row : Int), .int (f.place : Int), .int (f.turn : Int), .tup (f.hand.map PV.int)]), cs], .int b] = some (.sh (.tup [.tup ((L ++ [comeF b]).map fun f => PV.tup [.int (f.row : Int), .int (f.place : Int), .int (f.turn : Int), .tup (f.hand.map PV.int)]), cs])) := by
    rw [r17, b17, List.map_append]
    walk_at "mir"
    rfl
  rw [e]; rfl
theorem str_ne : ¬ (Str.ofString "still" = Str.ofString "put") := by decide
/-- where a box's cells begin -/
def off (B : List Bx) (x : Nat) : Nat := (allS B x).length
theorem off_succ (B : List Bx) (x : Nat) (h : x < B.length) : off B (x + 1) = off B x + bz B x := by
  unfold off bz
  rw [allS_succ B x h, List.length_append]
theorem off_mono (B : List Bx) (x : Nat) : ∀ i, x + i ≤ B.length → off B x ≤ off B (x + i)
  | 0, _ => Nat.le_refl _
  | i + 1, h => by
    have := off_mono B x i (by omega)
    have := off_succ B (x + i) (by omega)
    rw [← Nat.add_assoc]; omega
theorem off_lt (B : List Bx) (x j : Nat) (h : x < B.length) (hj : j < bz B x) : off B x + j < off B B.length := by
  have a := off_succ B x h
  have b := off_mono B (x + 1) (B.length - (x + 1)) (by omega)
  rw [show x + 1 + (B.length - (x + 1)) = B.length by omega] at b
  omega
theorem off_sum (B : List Bx) : ∀ x, x ≤ B.length → (((List.range x).map fun (k : Nat) => (((B.getD k e0).2.length : Nat) : Int))).sum = (off B x : Int)
  | 0, _ => rfl
  | x + 1, h => by
    rw [List.range_succ, List.map_append, List.sum_append, off_sum B x (by omega), off_succ B x (by omega)]
    simp [bz]
def cellsL (B : List Bx) (x : Nat) : List Int := (List.range (bz B x)).map fun (j : Nat) => ((off B x + j : Nat) : Int)
local macro_rules | `(tactic| walk_at "s3") => `(tactic| simp (maxSteps := 4000000) (disch := first | omega | assumption | ((try simp only [List.length_cons, List.length_nil, List.length_append, List.length_map, List.length_range]); omega) | decide) only [↓bx_at, ↓Mir.k_non, ↓Mir.k_bl, ↓Mir.k_int, ↓Mir.k_str, ↓Mir.k_glob, ↓Mir.k_var_sh0, ↓Mir.k_var_own0, ↓Mir.k_var_sh1, ↓Mir.k_var_own1, ↓Mir.k_var_sh2, ↓Mir.k_var_own2, ↓Mir.k_var_sh3, ↓Mir.k_var_own3, ↓Mir.k_var_sh4, ↓Mir.k_var_own4, ↓Mir.k_var_sh5, ↓Mir.k_var_own5, ↓Mir.k_var_sh6, ↓Mir.k_var_own6, ↓Mir.k_var_sh7, ↓Mir.k_var_own7, ↓Mir.k_var_sh8, ↓Mir.k_var_own8, ↓Mir.k_var_sh9, ↓Mir.k_var_own9, ↓Mir.k_var_sh10, ↓Mir.k_var_own10, ↓Mir.k_var_sh11, ↓Mir.k_var_own11, ↓Mir.k_var_sh12, ↓Mir.k_var_own12, ↓Mir.k_var_sh13, ↓Mir.k_var_own13, ↓Mir.k_var_sh14, ↓Mir.k_var_own14, ↓Mir.k_var_sh15, ↓Mir.k_var_own15, ↓Mir.k_var_sh16, ↓Mir.k_var_own16, ↓Mir.k_var_sh17, ↓Mir.k_var_own17, ↓Mir.k_var_sh18, ↓Mir.k_var_own18, ↓Mir.k_var_sh19, ↓Mir.k_var_own19, ↓Mir.k_var_sh20, ↓Mir.k_var_own20, ↓Mir.k_var_sh21, ↓Mir.k_var_own21, ↓Mir.k_var_sh22, ↓Mir.k_var_own22, ↓Mir.k_var_sh23, ↓Mir.k_var_own23, ↓Mir.k_var_sh24, ↓Mir.k_var_own24, ↓Mir.k_var_sh25, ↓Mir.k_var_own25, ↓Mir.k_bin, ↓Mir.k_cmp, ↓Mir.ifB_t, ↓Mir.ifB_f, ↓Mir.k_chain, ↓Mir.boolK_bl, ↓Mir.intK_int, ↓Mir.k_and, ↓Mir.k_or, ↓Mir.k_not, ↓Mir.k_neg, ↓Mir.k_inv, ↓Mir.k_ife, ↓Mir.k_ix, ↓Mir.k_slc, ↓Mir.k_tup, ↓Mir.k_lst, ↓Mir.k_call, ↓Mir.callK_1, ↓Mir.callK_2, ↓Mir.callK_3, ↓Mir.callK_4, ↓Mir.callK_5, ↓Mir.callK_6, ↓Mir.callK_7, ↓Mir.callK_8, ↓Mir.callK_Int, ↓Mir.callK_Bool, ↓Mir.callK_Str, ↓Mir.callK_non, ↓Mir.k_blt, ↓Mir.k_isi, ↓Mir.k_meth, ↓Mir.k_comp, ↓Mir.k_no, ↓Mir.k_some, ↓Mir.k_yes, ↓Mir.k_on, ↓Mir.k_nil, ↓Mir.k_cons, ↓Mir.t_val, ↓Mir.t_cmp, ↓Mir.t_chain, ↓Mir.t_and, ↓Mir.t_or, ↓Mir.t_not, ↓Mir.i_val, ↓Mir.i_range1, ↓Mir.i_range2, ↓Mir.lstK_lst, ↓Mir.i_enum, ↓Mir.seqK_lst, ↓Mir.seqK_tup, ↓Mir.i_rev, ↓Mir.i_zip, ↓Mir.p_sh, ↓Mir.p_own, ↓Mir.ps_nil, ↓Mir.ps_cons, ↓Mir.f_sh, ↓Mir.f_own, ↓Mir.fs_nil, ↓Mir.fs_cons, ↓Mir.fo_t, ↓Mir.p_b_own0, ↓Mir.p_b_sh0, ↓Mir.f_b0, ↓Mir.fo_b0, ↓Mir.p_b_own1, ↓Mir.p_b_sh1, ↓Mir.f_b1, ↓Mir.fo_b1, ↓Mir.p_b_own2, ↓Mir.p_b_sh2, ↓Mir.f_b2, ↓Mir.fo_b2, ↓Mir.p_b_own3, ↓Mir.p_b_sh3, ↓Mir.f_b3, ↓Mir.fo_b3, ↓Mir.p_b_own4, ↓Mir.p_b_sh4, ↓Mir.f_b4, ↓Mir.fo_b4, ↓Mir.p_b_own5, ↓Mir.p_b_sh5, ↓Mir.f_b5, ↓Mir.fo_b5, ↓Mir.p_b_own6, ↓Mir.p_b_sh6, ↓Mir.f_b6, ↓Mir.fo_b6, ↓Mir.p_b_own7, ↓Mir.p_b_sh7, ↓Mir.f_b7, ↓Mir.fo_b7, ↓Mir.p_b_own8, ↓Mir.p_b_sh8, ↓Mir.f_b8, ↓Mir.fo_b8, ↓Mir.p_b_own9, ↓Mir.p_b_sh9, ↓Mir.f_b9, ↓Mir.fo_b9, ↓Mir.p_b_own10, ↓Mir.p_b_sh10, ↓Mir.f_b10, ↓Mir.fo_b10, ↓Mir.p_b_own11, ↓Mir.p_b_sh11, ↓Mir.f_b11, ↓Mir.fo_b11, ↓Mir.p_b_own12, ↓Mir.p_b_sh12, ↓Mir.f_b12, ↓Mir.fo_b12, ↓Mir.p_b_own13, ↓Mir.p_b_sh13, ↓Mir.f_b13, ↓Mir.fo_b13, ↓Mir.p_b_own14, ↓Mir.p_b_sh14, ↓Mir.f_b14, ↓Mir.fo_b14, ↓Mir.p_b_own15, ↓Mir.p_b_sh15, ↓Mir.f_b15, ↓Mir.fo_b15, ↓Mir.p_b_own16, ↓Mir.p_b_sh16, ↓Mir.f_b16, ↓Mir.fo_b16, ↓Mir.p_b_own17, ↓Mir.p_b_sh17, ↓Mir.f_b17, ↓Mir.fo_b17, ↓Mir.p_b_own18, ↓Mir.p_b_sh18, ↓Mir.f_b18, ↓Mir.fo_b18, ↓Mir.p_b_own19, ↓Mir.p_b_sh19, ↓Mir.f_b19, ↓Mir.fo_b19, ↓Mir.p_b_own20, ↓Mir.p_b_sh20, ↓Mir.f_b20, ↓Mir.fo_b20, ↓Mir.p_b_own21, ↓Mir.p_b_sh21, ↓Mir.f_b21, ↓Mir.fo_b21, ↓Mir.p_b_own22, ↓Mir.p_b_sh22, ↓Mir.f_b22, ↓Mir.fo_b22, ↓Mir.p_b_own23, ↓Mir.p_b_sh23, ↓Mir.f_b23, ↓Mir.fo_b23, ↓Mir.p_b_own24, ↓Mir.p_b_sh24, ↓Mir.f_b24, ↓Mir.fo_b24, ↓Mir.p_b_own25, ↓Mir.p_b_sh25, ↓Mir.f_b25, ↓Mir.fo_b25, ↓Mir.pv_sh, ↓Mir.pv_own, ↓Mir.bt_name0, ↓Mir.sa_0, ↓Mir.bt_name1, ↓Mir.sa_1, ↓Mir.bt_name2, ↓Mir.sa_2, ↓Mir.bt_name3, ↓Mir.sa_3, ↓Mir.bt_name4, ↓Mir.sa_4, ↓Mir.bt_name5, ↓Mir.sa_5, ↓Mir.bt_name6, ↓Mir.sa_6, ↓Mir.bt_name7, ↓Mir.sa_7, ↓Mir.bt_name8, ↓Mir.sa_8, ↓Mir.bt_name9, ↓Mir.sa_9, ↓Mir.bt_name10, ↓Mir.sa_10, ↓Mir.bt_name11, ↓Mir.sa_11, ↓Mir.bt_name12, ↓Mir.sa_12, ↓Mir.bt_name13, ↓Mir.sa_13, ↓Mir.bt_name14, ↓Mir.sa_14, ↓Mir.bt_name15, ↓Mir.sa_15, ↓Mir.bt_name16, ↓Mir.sa_16, ↓Mir.bt_name17, ↓Mir.sa_17, ↓Mir.bt_name18, ↓Mir.sa_18, ↓Mir.bt_name19, ↓Mir.sa_19, ↓Mir.bt_name20, ↓Mir.sa_20, ↓Mir.bt_name21, ↓Mir.sa_21, ↓Mir.bt_name22, ↓Mir.sa_22, ↓Mir.bt_name23, ↓Mir.sa_23, ↓Mir.bt_name24, ↓Mir.sa_24, ↓Mir.bt_name25, ↓Mir.sa_25, ↓Mir.sa_end, ↓Mir.bt_tup, ↓Mir.b_Add, ↓Mir.b_Sub, ↓Mir.b_BitAnd, ↓Mir.b_BitOr, ↓Mir.b_BitXor, ↓Mir.b_Mult, ↓Mir.b_Mod, ↓Mir.b_FloorDiv, ↓Mir.b_Pow, ↓Mir.b_LShift, ↓Mir.b_RShift, ↓Mir.b_Add_str, ↓Mir.b_Add_lst, ↓Mir.b_Add_tup, ↓Mir.c_Lt, ↓Mir.c_LtE, ↓Mir.c_Gt, ↓Mir.c_GtE, ↓Mir.c_Eq, ↓Mir.c_NotEq, ↓Mir.c_Eq_str, ↓Mir.c_NotEq_str, ↓Mir.c_Eq_bl, ↓Mir.c_NotEq_bl, ↓Mir.c_Eq_int_str, ↓Mir.c_NotEq_int_str, ↓Mir.c_Eq_str_int, ↓Mir.c_NotEq_str_int, ↓Mir.c_Eq_bl_str, ↓Mir.c_NotEq_bl_str, ↓Mir.c_Eq_str_bl, ↓Mir.c_NotEq_str_bl, ↓Mir.c_Eq_int_non, ↓Mir.c_NotEq_int_non, ↓Mir.c_Eq_str_non, ↓Mir.c_NotEq_str_non, ↓Mir.c_Eq_bl_non, ↓Mir.c_NotEq_bl_non, ↓Mir.c_Is_int, ↓Mir.c_IsNot_int, ↓Mir.c_Is_str, ↓Mir.c_IsNot_str, ↓Mir.c_Is_bl, ↓Mir.c_IsNot_bl, ↓Mir.c_Is_tup, ↓Mir.c_IsNot_tup, ↓Mir.c_Is_lst, ↓Mir.c_IsNot_lst, ↓Mir.c_Is_non, ↓Mir.c_IsNot_non, ↓Mir.c_In, ↓Mir.c_NotIn, ↓Mir.tr_bl, ↓Mir.tr_int, ↓Mir.tr_lst, ↓Mir.tr_tup, ↓Mir.tr_non, ↓Mir.x_lst, ↓Mir.x_tup, ↓Mir.at_0, ↓Mir.at_1, ↓Mir.at_2, ↓Mir.at_3, ↓Mir.at_4, ↓Mir.at_5, ↓Mir.at_6, ↓Mir.at_7, ↓Mir.sl_lst, ↓Mir.sl_tup, ↓Mir.bl_len_lst, ↓Mir.bl_len_tup, ↓Mir.bl_abs, ↓Mir.bl_max, ↓Mir.bl_min, ↓Mir.bl_int_int, ↓Mir.bl_int_bl, ↓Mir.bl_list_lst, ↓Mir.bl_list_tup, ↓Mir.bl_tuple_lst, ↓Mir.bl_tuple_tup, ↓Mir.bl_sum, ↓Mir.bl_all, ↓Mir.bl_any, ↓Mir.bl_sorted, ↓Mir.as_ints, ↓Mir.as_bls, ↓Mir.as_strs, ↓Mir.is_non_tuple, ↓Mir.is_non_list, ↓Mir.is_non_bool, ↓Mir.is_non_int, ↓Mir.is_non_str, ↓Mir.is_bl_tuple, ↓Mir.is_bl_list, ↓Mir.is_bl_bool, ↓Mir.is_bl_int, ↓Mir.is_bl_str, ↓Mir.is_int_tuple, ↓Mir.is_int_list, ↓Mir.is_int_bool, ↓Mir.is_int_int, ↓Mir.is_int_str, ↓Mir.is_str_tuple, ↓Mir.is_str_list, ↓Mir.is_str_bool, ↓Mir.is_str_int, ↓Mir.is_str_str, ↓Mir.is_lst_tuple, ↓Mir.is_lst_list, ↓Mir.is_lst_bool, ↓Mir.is_lst_int, ↓Mir.is_lst_str, ↓Mir.is_tup_tuple, ↓Mir.is_tup_list, ↓Mir.is_tup_bool, ↓Mir.is_tup_int, ↓Mir.is_tup_str, ↓Mir.it_lst, ↓Mir.it_tup, ↓Mir.z_lst, ↓Mir.z_tup, ↓Mir.s_nil, ↓Mir.s_set, ↓Mir.s_expr, ↓Mir.s_ret, ↓Mir.s_retN, ↓Mir.s_pass, ↓Mir.s_brk, ↓Mir.ifS_t, ↓Mir.ifS_f, ↓Mir.s_if, ↓Mir.s_for, ↓Mir.s_while, ↓Mir.s_app0, ↓Mir.appE_0, ↓Mir.s_ext0, ↓Mir.extE_0, ↓Mir.setE_0, ↓Mir.s_app1, ↓Mir.appE_1, ↓Mir.s_ext1, ↓Mir.extE_1, ↓Mir.setE_1, ↓Mir.s_app2, ↓Mir.appE_2, ↓Mir.s_ext2, ↓Mir.extE_2, ↓Mir.setE_2, ↓Mir.s_app3, ↓Mir.appE_3, ↓Mir.s_ext3, ↓Mir.extE_3, ↓Mir.setE_3, ↓Mir.s_app4, ↓Mir.appE_4, ↓Mir.s_ext4, ↓Mir.extE_4, ↓Mir.setE_4, ↓Mir.s_app5, ↓Mir.appE_5, ↓Mir.s_ext5, ↓Mir.extE_5, ↓Mir.setE_5, ↓Mir.s_app6, ↓Mir.appE_6, ↓Mir.s_ext6, ↓Mir.extE_6, ↓Mir.setE_6, ↓Mir.s_app7, ↓Mir.appE_7, ↓Mir.s_ext7, ↓Mir.extE_7, ↓Mir.setE_7, ↓Mir.s_app8, ↓Mir.appE_8, ↓Mir.s_ext8, ↓Mir.extE_8, ↓Mir.setE_8, ↓Mir.s_app9, ↓Mir.appE_9, ↓Mir.s_ext9, ↓Mir.extE_9, ↓Mir.setE_9, ↓Mir.s_app10, ↓Mir.appE_10, ↓Mir.s_ext10, ↓Mir.extE_10, ↓Mir.setE_10, ↓Mir.s_app11, ↓Mir.appE_11, ↓Mir.s_ext11, ↓Mir.extE_11, ↓Mir.setE_11, ↓Mir.s_app12, ↓Mir.appE_12, ↓Mir.s_ext12, ↓Mir.extE_12, ↓Mir.setE_12, ↓Mir.s_app13, ↓Mir.appE_13, ↓Mir.s_ext13, ↓Mir.extE_13, ↓Mir.setE_13, ↓Mir.s_app14, ↓Mir.appE_14, ↓Mir.s_ext14, ↓Mir.extE_14, ↓Mir.setE_14, ↓Mir.s_app15, ↓Mir.appE_15, ↓Mir.s_ext15, ↓Mir.extE_15, ↓Mir.setE_15, ↓Mir.s_app16, ↓Mir.appE_16, ↓Mir.s_ext16, ↓Mir.extE_16, ↓Mir.setE_16, ↓Mir.s_app17, ↓Mir.appE_17, ↓Mir.s_ext17, ↓Mir.extE_17, ↓Mir.setE_17, ↓Mir.s_app18, ↓Mir.appE_18, ↓Mir.s_ext18, ↓Mir.extE_18, ↓Mir.setE_18, ↓Mir.s_app19, ↓Mir.appE_19, ↓Mir.s_ext19, ↓Mir.extE_19, ↓Mir.setE_19, ↓Mir.s_app20, ↓Mir.appE_20, ↓Mir.s_ext20, ↓Mir.extE_20, ↓Mir.setE_20, ↓Mir.s_app21, ↓Mir.appE_21, ↓Mir.s_ext21, ↓Mir.extE_21, ↓Mir.setE_21, ↓Mir.s_app22, ↓Mir.appE_22, ↓Mir.s_ext22, ↓Mir.extE_22, ↓Mir.setE_22, ↓Mir.s_app23, ↓Mir.appE_23, ↓Mir.s_ext23, ↓Mir.extE_23, ↓Mir.setE_23, ↓Mir.s_app24, ↓Mir.appE_24, ↓Mir.s_ext24, ↓Mir.extE_24, ↓Mir.setE_24, ↓Mir.s_app25, ↓Mir.appE_25, ↓Mir.s_ext25, ↓Mir.extE_25, ↓Mir.setE_25, ↓Mir.ifS_not, ↓Mir.ifS_pos, ↓Mir.ifS_neg, ↓Mir.ifB_not, ↓Mir.ifB_pos, ↓Mir.ifB_neg, ↓Mir.turnC_eq, ↓Mir.shNs_nil, ↓Mir.shNs_cons, ↓Mir.shN1_ok, Mir.shN1_none, Mir.shN1_sh, Mir.wipe_nil, Mir.wipe_cons, Mir.back_nil, Mir.back_cons, List.set_cons_zero, List.set_cons_succ, List.getD_cons_zero, List.getD_cons_succ, List.map_cons, List.map_nil, ↓Mir.limK_le, ↓Mir.inRK_ok, ↓Mir.okK_ok, ↓Mir.appK_ok, ↓Mir.extK_ok, ↓Mir.finK_ret, ↓Mir.finK_next, ↓Mir.finK_for, ↓Mir.finK_while, ↓Mir.finK_comp, ↓Mir.finK_ifB, ↓Mir.finK_ifS, Mir.app_nil, Mir.app_cons, Mir.flK_next, Mir.flK_ret, Mir.flK_brk, Option.bind_none, decide_true, decide_false, Bool.not_true, Bool.not_false, Mir.pv_sh, Mir.pv_own, List.cons_append, List.nil_append, Mir.okK_ok, Int.reducePow, Int.reduceToNat, Int.reduceMul, Int.reduceAdd, Int.reduceSub, Int.reduceNeg, Nat.reducePow, Nat.reduceMul, Nat.reduceAdd, Nat.reduceSub, Int.one_mul, Int.zero_add, Int.zero_mul, ↓Mir.atI_nat, Int.toNat_natCast])
theorem lcells_k {B : List Bx} {x : Nat} {n : Nat} {γ : Type} {c : Sl → Option γ} (hn : 1 ≤ n) (hB : goodB B) (hx : x < B.length) : (fns P n 18 [.tup (B.map fun b => PV.tup [.str b.1, .tup (b.2.map PV.int)]), .int x]).bind c = c (.own ((cellsL B x).map PV.int)) := by
  obtain ⟨n, rfl⟩ : ∃ j, n = j + 1 := ⟨n - 1, by omega⟩
  have hB8 := hB.1
  have h2 := bz_le B hB x
  have e : fns P (n + 1) 18 [.tup (B.map fun b => PV.tup [.str b.1, .tup (b.2.map PV.int)]), .int x] = some (.own ((cellsL B x).map PV.int)) := by
    rw [r18, b18]
    walk_at "s3"
    refine comp_then (List.range x) (fun (k : Nat) => .int (k : Int)) (fun (k : Nat) => .int (((B.getD k e0).2.length : Nat) : Int)) (rangeL_zero _) ?_ (by rw [List.length_range]; omega) ?_
    · intro k hk
      have := List.mem_range.mp hk
      walk_at "s3"
      simp only [List.length_map]
    have hs : ((List.range x).map fun (k : Nat) => PV.int (((B.getD k e0).2.length : Nat) : Int)) = ((List.range x).map fun (k : Nat) => (((B.getD k e0).2.length : Nat) : Int)).map PV.int := by rw [List.map_map]; rfl
    have hb : ((B.getD x e0).2.map PV.int).length = bz B x := by rw [List.length_map]; rfl
    rw [hs]
    walk_at "s3"
    rw [off_sum B x (by omega), hb]
    try walk_at "s3"
    refine comp_then (List.range (bz B x)) (fun (k : Nat) => .int (k : Int)) (fun (k : Nat) => .int ((off B x : Int) + k)) (rangeL_zero _) ?_ (by rw [List.length_range]; omega) ?_
    · intro k hk
      walk_at "s3"
    walk_at "s3"
    unfold cellsL
    rw [List.map_map]
    rfl
  rw [e]; rfl
/-- a turn -/
inductive Tn where
  | rest | lay (c : Nat) (v : Int) | tick (c : Nat) | take (c : Nat) | back (c k : Nat) (n : Int) | move (c o : Nat) | same (c : Nat)
def Tn.pv : Tn → PV
  | .rest => .tup [.str (Str.ofString "rest"), .int 0, .int 0]
  | .lay c v => .tup [.str (Str.ofString "lay"), .int (c : Int), .int v]
  | .tick c => .tup [.str (Str.ofString "tick"), .int (c : Int), .int 0]
  | .take c => .tup [.str (Str.ofString "take"), .int (c : Int), .int 0]
  | .back c k n => .tup [.str (Str.ofString "back"), .int (c : Int), .tup [.int (k : Int), .int n]]
  | .move c o => .tup [.str (Str.ofString "move"), .int (c : Int), .int (o : Int)]
  | .same c => .tup [.str (Str.ofString "same"), .int (c : Int), .int 0]
def cutN (B : List Bx) (x : Nat) (f : Nat → Nat → Tn) : List Tn := (List.range (bz B x)).map fun (j : Nat) => f (off B x + j) j
/-- a deed's turns -/
def turnsOf (B : List Bx) : Dd → List Tn
  | .still n => (List.range n.toNat).map fun _ => .rest
  | .put x l => cutN B x fun c j => .lay c (l.getD j 0)
  | .copy x y => cutN B x fun c j => .move c (off B y + j)
  | .grow x n => cutN B x (fun c _ => .take c) ++ cutN B x fun c j => .back c j n
  | .tick x => [.tick (off B x)]
  | .is _ _ _ => [.rest]
  | .most _ _ _ => [.rest]
  | .none _ => [.rest]
  | .anew x y t => [.take (off B t)] ++ cutN B y (fun c _ => .take c) ++ [.same (off B t)] ++ cutN B x fun c j => .back c (j + 1) 0
theorem cells_map (B : List Bx) (x : Nat) : (cellsL B x).map PV.int = (List.range (bz B x)).map fun (j : Nat) => PV.int ((off B x + j : Nat) : Int) := by
  unfold cellsL
  rw [List.map_map]; rfl
theorem cells_at {B : List Bx} {x k : Nat} {γ : Type} {c : PV → Option γ} (h : k < bz B x) : (atI ((cellsL B x).map PV.int) (k : Int)).bind c = c (.int ((off B x + k : Nat) : Int)) := by
  rw [cells_map, atI_get (fun (j : Nat) => PV.int ((off B x + j : Nat) : Int)) 0 (by rw [List.length_range]; exact h)]
  rw [List.getD_eq_getElem?_getD, List.getElem?_range h]
  rfl
theorem cells_at0 {B : List Bx} {x : Nat} {γ : Type} {c : PV → Option γ} (h : 0 < bz B x) : (atI ((cellsL B x).map PV.int) 0).bind c = c (.int ((off B x : Nat) : Int)) := cells_at (k := 0) h
theorem cells_n (B : List Bx) (x : Nat) : ((cellsL B x).map PV.int).length = bz B x := by rw [cells_map, List.length_map, List.length_range]
theorem cut_pv (B : List Bx) (x : Nat) (f : Nat → Nat → Tn) : (cutN B x f).map Tn.pv = (List.range (bz B x)).map fun (j : Nat) => (f (off B x + j) j).pv := by
  unfold cutN
  rw [List.map_map]; rfl
theorem bz_pos {B : List Bx} (hB : goodB B) {x : Nat} (h : x < B.length) : 0 < bz B x := (hB.2 _ (getD_mem h)).1
local macro_rules | `(tactic| walk_at "s4") => `(tactic| simp (maxSteps := 4000000) (disch := first | omega | assumption | ((try simp only [List.length_cons, List.length_nil, List.length_append, List.length_map, List.length_range]); omega) | decide) only [↓lcells_k, ↓cells_at, ↓cells_at0, ↓Mir.k_non, ↓Mir.k_bl, ↓Mir.k_int, ↓Mir.k_str, ↓Mir.k_glob, ↓Mir.k_var_sh0, ↓Mir.k_var_own0, ↓Mir.k_var_sh1, ↓Mir.k_var_own1, ↓Mir.k_var_sh2, ↓Mir.k_var_own2, ↓Mir.k_var_sh3, ↓Mir.k_var_own3, ↓Mir.k_var_sh4, ↓Mir.k_var_own4, ↓Mir.k_var_sh5, ↓Mir.k_var_own5, ↓Mir.k_var_sh6, ↓Mir.k_var_own6, ↓Mir.k_var_sh7, ↓Mir.k_var_own7, ↓Mir.k_var_sh8, ↓Mir.k_var_own8, ↓Mir.k_var_sh9, ↓Mir.k_var_own9, ↓Mir.k_var_sh10, ↓Mir.k_var_own10, ↓Mir.k_var_sh11, ↓Mir.k_var_own11, ↓Mir.k_var_sh12, ↓Mir.k_var_own12, ↓Mir.k_var_sh13, ↓Mir.k_var_own13, ↓Mir.k_var_sh14, ↓Mir.k_var_own14, ↓Mir.k_var_sh15, ↓Mir.k_var_own15, ↓Mir.k_var_sh16, ↓Mir.k_var_own16, ↓Mir.k_var_sh17, ↓Mir.k_var_own17, ↓Mir.k_var_sh18, ↓Mir.k_var_own18, ↓Mir.k_var_sh19, ↓Mir.k_var_own19, ↓Mir.k_var_sh20, ↓Mir.k_var_own20, ↓Mir.k_var_sh21, ↓Mir.k_var_own21, ↓Mir.k_var_sh22, ↓Mir.k_var_own22, ↓Mir.k_var_sh23, ↓Mir.k_var_own23, ↓Mir.k_var_sh24, ↓Mir.k_var_own24, ↓Mir.k_var_sh25, ↓Mir.k_var_own25, ↓Mir.k_bin, ↓Mir.k_cmp, ↓Mir.ifB_t, ↓Mir.ifB_f, ↓Mir.k_chain, ↓Mir.boolK_bl, ↓Mir.intK_int, ↓Mir.k_and, ↓Mir.k_or, ↓Mir.k_not, ↓Mir.k_neg, ↓Mir.k_inv, ↓Mir.k_ife, ↓Mir.k_ix, ↓Mir.k_slc, ↓Mir.k_tup, ↓Mir.k_lst, ↓Mir.k_call, ↓Mir.callK_1, ↓Mir.callK_2, ↓Mir.callK_3, ↓Mir.callK_4, ↓Mir.callK_5, ↓Mir.callK_6, ↓Mir.callK_7, ↓Mir.callK_8, ↓Mir.callK_Int, ↓Mir.callK_Bool, ↓Mir.callK_Str, ↓Mir.callK_non, ↓Mir.k_blt, ↓Mir.k_isi, ↓Mir.k_meth, ↓Mir.k_comp, ↓Mir.k_no, ↓Mir.k_some, ↓Mir.k_yes, ↓Mir.k_on, ↓Mir.k_nil, ↓Mir.k_cons, ↓Mir.t_val, ↓Mir.t_cmp, ↓Mir.t_chain, ↓Mir.t_and, ↓Mir.t_or, ↓Mir.t_not, ↓Mir.i_val, ↓Mir.i_range1, ↓Mir.i_range2, ↓Mir.lstK_lst, ↓Mir.i_enum, ↓Mir.seqK_lst, ↓Mir.seqK_tup, ↓Mir.i_rev, ↓Mir.i_zip, ↓Mir.p_sh, ↓Mir.p_own, ↓Mir.ps_nil, ↓Mir.ps_cons, ↓Mir.f_sh, ↓Mir.f_own, ↓Mir.fs_nil, ↓Mir.fs_cons, ↓Mir.fo_t, ↓Mir.p_b_own0, ↓Mir.p_b_sh0, ↓Mir.f_b0, ↓Mir.fo_b0, ↓Mir.p_b_own1, ↓Mir.p_b_sh1, ↓Mir.f_b1, ↓Mir.fo_b1, ↓Mir.p_b_own2, ↓Mir.p_b_sh2, ↓Mir.f_b2, ↓Mir.fo_b2, ↓Mir.p_b_own3, ↓Mir.p_b_sh3, ↓Mir.f_b3, ↓Mir.fo_b3, ↓Mir.p_b_own4, ↓Mir.p_b_sh4, ↓Mir.f_b4, ↓Mir.fo_b4, ↓Mir.p_b_own5, ↓Mir.p_b_sh5, ↓Mir.f_b5, ↓Mir.fo_b5, ↓Mir.p_b_own6, ↓Mir.p_b_sh6, ↓Mir.f_b6, ↓Mir.fo_b6, ↓Mir.p_b_own7, ↓Mir.p_b_sh7, ↓Mir.f_b7, ↓Mir.fo_b7, ↓Mir.p_b_own8, ↓Mir.p_b_sh8, ↓Mir.f_b8, ↓Mir.fo_b8, ↓Mir.p_b_own9, ↓Mir.p_b_sh9, ↓Mir.f_b9, ↓Mir.fo_b9, ↓Mir.p_b_own10, ↓Mir.p_b_sh10, ↓Mir.f_b10, ↓Mir.fo_b10, ↓Mir.p_b_own11, ↓Mir.p_b_sh11, ↓Mir.f_b11, ↓Mir.fo_b11, ↓Mir.p_b_own12, ↓Mir.p_b_sh12, ↓Mir.f_b12, ↓Mir.fo_b12, ↓Mir.p_b_own13, ↓Mir.p_b_sh13, ↓Mir.f_b13, ↓Mir.fo_b13, ↓Mir.p_b_own14, ↓Mir.p_b_sh14, ↓Mir.f_b14, ↓Mir.fo_b14, ↓Mir.p_b_own15, ↓Mir.p_b_sh15, ↓Mir.f_b15, ↓Mir.fo_b15, ↓Mir.p_b_own16, ↓Mir.p_b_sh16, ↓Mir.f_b16, ↓Mir.fo_b16, ↓Mir.p_b_own17, ↓Mir.p_b_sh17, ↓Mir.f_b17, ↓Mir.fo_b17, ↓Mir.p_b_own18, ↓Mir.p_b_sh18, ↓Mir.f_b18, ↓Mir.fo_b18, ↓Mir.p_b_own19, ↓Mir.p_b_sh19, ↓Mir.f_b19, ↓Mir.fo_b19, ↓Mir.p_b_own20, ↓Mir.p_b_sh20, ↓Mir.f_b20, ↓Mir.fo_b20, ↓Mir.p_b_own21, ↓Mir.p_b_sh21, ↓Mir.f_b21, ↓Mir.fo_b21, ↓Mir.p_b_own22, ↓Mir.p_b_sh22, ↓Mir.f_b22, ↓Mir.fo_b22, ↓Mir.p_b_own23, ↓Mir.p_b_sh23, ↓Mir.f_b23, ↓Mir.fo_b23, ↓Mir.p_b_own24, ↓Mir.p_b_sh24, ↓Mir.f_b24, ↓Mir.fo_b24, ↓Mir.p_b_own25, ↓Mir.p_b_sh25, ↓Mir.f_b25, ↓Mir.fo_b25, ↓Mir.pv_sh, ↓Mir.pv_own, ↓Mir.bt_name0, ↓Mir.sa_0, ↓Mir.bt_name1, ↓Mir.sa_1, ↓Mir.bt_name2, ↓Mir.sa_2, ↓Mir.bt_name3, ↓Mir.sa_3, ↓Mir.bt_name4, ↓Mir.sa_4, ↓Mir.bt_name5, ↓Mir.sa_5, ↓Mir.bt_name6, ↓Mir.sa_6, ↓Mir.bt_name7, ↓Mir.sa_7, ↓Mir.bt_name8, ↓Mir.sa_8, ↓Mir.bt_name9, ↓Mir.sa_9, ↓Mir.bt_name10, ↓Mir.sa_10, ↓Mir.bt_name11, ↓Mir.sa_11, ↓Mir.bt_name12, ↓Mir.sa_12, ↓Mir.bt_name13, ↓Mir.sa_13, ↓Mir.bt_name14, ↓Mir.sa_14, ↓Mir.bt_name15, ↓Mir.sa_15, ↓Mir.bt_name16, ↓Mir.sa_16, ↓Mir.bt_name17, ↓Mir.sa_17, ↓Mir.bt_name18, ↓Mir.sa_18, ↓Mir.bt_name19, ↓Mir.sa_19, ↓Mir.bt_name20, ↓Mir.sa_20, ↓Mir.bt_name21, ↓Mir.sa_21, ↓Mir.bt_name22, ↓Mir.sa_22, ↓Mir.bt_name23, ↓Mir.sa_23, ↓Mir.bt_name24, ↓Mir.sa_24, ↓Mir.bt_name25, ↓Mir.sa_25, ↓Mir.sa_end, ↓Mir.bt_tup, ↓Mir.b_Add, ↓Mir.b_Sub, ↓Mir.b_BitAnd, ↓Mir.b_BitOr, ↓Mir.b_BitXor, ↓Mir.b_Mult, ↓Mir.b_Mod, ↓Mir.b_FloorDiv, ↓Mir.b_Pow, ↓Mir.b_LShift, ↓Mir.b_RShift, ↓Mir.b_Add_str, ↓Mir.b_Add_lst, ↓Mir.b_Add_tup, ↓Mir.c_Lt, ↓Mir.c_LtE, ↓Mir.c_Gt, ↓Mir.c_GtE, ↓Mir.c_Eq, ↓Mir.c_NotEq, ↓Mir.c_Eq_str, ↓Mir.c_NotEq_str, ↓Mir.c_Eq_bl, ↓Mir.c_NotEq_bl, ↓Mir.c_Eq_int_str, ↓Mir.c_NotEq_int_str, ↓Mir.c_Eq_str_int, ↓Mir.c_NotEq_str_int, ↓Mir.c_Eq_bl_str, ↓Mir.c_NotEq_bl_str, ↓Mir.c_Eq_str_bl, ↓Mir.c_NotEq_str_bl, ↓Mir.c_Eq_int_non, ↓Mir.c_NotEq_int_non, ↓Mir.c_Eq_str_non, ↓Mir.c_NotEq_str_non, ↓Mir.c_Eq_bl_non, ↓Mir.c_NotEq_bl_non, ↓Mir.c_Is_int, ↓Mir.c_IsNot_int, ↓Mir.c_Is_str, ↓Mir.c_IsNot_str, ↓Mir.c_Is_bl, ↓Mir.c_IsNot_bl, ↓Mir.c_Is_tup, ↓Mir.c_IsNot_tup, ↓Mir.c_Is_lst, ↓Mir.c_IsNot_lst, ↓Mir.c_Is_non, ↓Mir.c_IsNot_non, ↓Mir.c_In, ↓Mir.c_NotIn, ↓Mir.tr_bl, ↓Mir.tr_int, ↓Mir.tr_lst, ↓Mir.tr_tup, ↓Mir.tr_non, ↓Mir.x_lst, ↓Mir.x_tup, ↓Mir.at_0, ↓Mir.at_1, ↓Mir.at_2, ↓Mir.at_3, ↓Mir.at_4, ↓Mir.at_5, ↓Mir.at_6, ↓Mir.at_7, ↓Mir.sl_lst, ↓Mir.sl_tup, ↓Mir.bl_len_lst, ↓Mir.bl_len_tup, ↓Mir.bl_abs, ↓Mir.bl_max, ↓Mir.bl_min, ↓Mir.bl_int_int, ↓Mir.bl_int_bl, ↓Mir.bl_list_lst, ↓Mir.bl_list_tup, ↓Mir.bl_tuple_lst, ↓Mir.bl_tuple_tup, ↓Mir.bl_sum, ↓Mir.bl_all, ↓Mir.bl_any, ↓Mir.bl_sorted, ↓Mir.as_ints, ↓Mir.as_bls, ↓Mir.as_strs, ↓Mir.is_non_tuple, ↓Mir.is_non_list, ↓Mir.is_non_bool, ↓Mir.is_non_int, ↓Mir.is_non_str, ↓Mir.is_bl_tuple, ↓Mir.is_bl_list, ↓Mir.is_bl_bool, ↓Mir.is_bl_int, ↓Mir.is_bl_str, ↓Mir.is_int_tuple, ↓Mir.is_int_list, ↓Mir.is_int_bool, ↓Mir.is_int_int, ↓Mir.is_int_str, ↓Mir.is_str_tuple, ↓Mir.is_str_list, ↓Mir.is_str_bool, ↓Mir.is_str_int, ↓Mir.is_str_str, ↓Mir.is_lst_tuple, ↓Mir.is_lst_list, ↓Mir.is_lst_bool, ↓Mir.is_lst_int, ↓Mir.is_lst_str, ↓Mir.is_tup_tuple, ↓Mir.is_tup_list, ↓Mir.is_tup_bool, ↓Mir.is_tup_int, ↓Mir.is_tup_str, ↓Mir.it_lst, ↓Mir.it_tup, ↓Mir.z_lst, ↓Mir.z_tup, ↓Mir.s_nil, ↓Mir.s_set, ↓Mir.s_expr, ↓Mir.s_ret, ↓Mir.s_retN, ↓Mir.s_pass, ↓Mir.s_brk, ↓Mir.ifS_t, ↓Mir.ifS_f, ↓Mir.s_if, ↓Mir.s_for, ↓Mir.s_while, ↓Mir.s_app0, ↓Mir.appE_0, ↓Mir.s_ext0, ↓Mir.extE_0, ↓Mir.setE_0, ↓Mir.s_app1, ↓Mir.appE_1, ↓Mir.s_ext1, ↓Mir.extE_1, ↓Mir.setE_1, ↓Mir.s_app2, ↓Mir.appE_2, ↓Mir.s_ext2, ↓Mir.extE_2, ↓Mir.setE_2, ↓Mir.s_app3, ↓Mir.appE_3, ↓Mir.s_ext3, ↓Mir.extE_3, ↓Mir.setE_3, ↓Mir.s_app4, ↓Mir.appE_4, ↓Mir.s_ext4, ↓Mir.extE_4, ↓Mir.setE_4, ↓Mir.s_app5, ↓Mir.appE_5, ↓Mir.s_ext5, ↓Mir.extE_5, ↓Mir.setE_5, ↓Mir.s_app6, ↓Mir.appE_6, ↓Mir.s_ext6, ↓Mir.extE_6, ↓Mir.setE_6, ↓Mir.s_app7, ↓Mir.appE_7, ↓Mir.s_ext7, ↓Mir.extE_7, ↓Mir.setE_7, ↓Mir.s_app8, ↓Mir.appE_8, ↓Mir.s_ext8, ↓Mir.extE_8, ↓Mir.setE_8, ↓Mir.s_app9, ↓Mir.appE_9, ↓Mir.s_ext9, ↓Mir.extE_9, ↓Mir.setE_9, ↓Mir.s_app10, ↓Mir.appE_10, ↓Mir.s_ext10, ↓Mir.extE_10, ↓Mir.setE_10, ↓Mir.s_app11, ↓Mir.appE_11, ↓Mir.s_ext11, ↓Mir.extE_11, ↓Mir.setE_11, ↓Mir.s_app12, ↓Mir.appE_12, ↓Mir.s_ext12, ↓Mir.extE_12, ↓Mir.setE_12, ↓Mir.s_app13, ↓Mir.appE_13, ↓Mir.s_ext13, ↓Mir.extE_13, ↓Mir.setE_13, ↓Mir.s_app14, ↓Mir.appE_14, ↓Mir.s_ext14, ↓Mir.extE_14, ↓Mir.setE_14, ↓Mir.s_app15, ↓Mir.appE_15, ↓Mir.s_ext15, ↓Mir.extE_15, ↓Mir.setE_15, ↓Mir.s_app16, ↓Mir.appE_16, ↓Mir.s_ext16, ↓Mir.extE_16, ↓Mir.setE_16, ↓Mir.s_app17, ↓Mir.appE_17, ↓Mir.s_ext17, ↓Mir.extE_17, ↓Mir.setE_17, ↓Mir.s_app18, ↓Mir.appE_18, ↓Mir.s_ext18, ↓Mir.extE_18, ↓Mir.setE_18, ↓Mir.s_app19, ↓Mir.appE_19, ↓Mir.s_ext19, ↓Mir.extE_19, ↓Mir.setE_19, ↓Mir.s_app20, ↓Mir.appE_20, ↓Mir.s_ext20, ↓Mir.extE_20, ↓Mir.setE_20, ↓Mir.s_app21, ↓Mir.appE_21, ↓Mir.s_ext21, ↓Mir.extE_21, ↓Mir.setE_21, ↓Mir.s_app22, ↓Mir.appE_22, ↓Mir.s_ext22, ↓Mir.extE_22, ↓Mir.setE_22, ↓Mir.s_app23, ↓Mir.appE_23, ↓Mir.s_ext23, ↓Mir.extE_23, ↓Mir.setE_23, ↓Mir.s_app24, ↓Mir.appE_24, ↓Mir.s_ext24, ↓Mir.extE_24, ↓Mir.setE_24, ↓Mir.s_app25, ↓Mir.appE_25, ↓Mir.s_ext25, ↓Mir.extE_25, ↓Mir.setE_25, ↓Mir.ifS_not, ↓Mir.ifS_pos, ↓Mir.ifS_neg, ↓Mir.ifB_not, ↓Mir.ifB_pos, ↓Mir.ifB_neg, ↓Mir.turnC_eq, ↓Mir.shNs_nil, ↓Mir.shNs_cons, ↓Mir.shN1_ok, Mir.shN1_none, Mir.shN1_sh, Mir.wipe_nil, Mir.wipe_cons, Mir.back_nil, Mir.back_cons, List.set_cons_zero, List.set_cons_succ, List.getD_cons_zero, List.getD_cons_succ, List.map_cons, List.map_nil, ↓Mir.limK_le, ↓Mir.inRK_ok, ↓Mir.okK_ok, ↓Mir.appK_ok, ↓Mir.extK_ok, ↓Mir.finK_ret, ↓Mir.finK_next, ↓Mir.finK_for, ↓Mir.finK_while, ↓Mir.finK_comp, ↓Mir.finK_ifB, ↓Mir.finK_ifS, Mir.app_nil, Mir.app_cons, Mir.flK_next, Mir.flK_ret, Mir.flK_brk, Option.bind_none, decide_true, decide_false, Bool.not_true, Bool.not_false, Mir.pv_sh, Mir.pv_own, List.cons_append, List.nil_append, Mir.okK_ok, Int.reducePow, Int.reduceToNat, Int.reduceMul, Int.reduceAdd, Int.reduceSub, Int.reduceNeg, Nat.reducePow, Nat.reduceMul, Nat.reduceAdd, Nat.reduceSub, Int.one_mul, Int.zero_add, Int.zero_mul, ↓Mir.atI_nat, Int.toNat_natCast])
theorem turns_k {B : List Bx} {rest : Int} {d : Dd} {n : Nat} {γ : Type} {c : Sl → Option γ} (hn : 2 ≤ n) (hB : goodB B) (hd : goodD B rest d) (hr : rest ≤ 1000) : (fns P n 19 [.tup (B.map fun b => PV.tup [.str b.1, .tup (b.2.map PV.int)]), d.pv]).bind c = c (.own ((turnsOf B d).map Tn.pv)) := by
  obtain ⟨n, rfl⟩ : ∃ j, n = j + 1 := ⟨n - 1, by omega⟩
  have e : fns P (n + 1) 19 [.tup (B.map fun b => PV.tup [.str b.1, .tup (b.2.map PV.int)]), d.pv] = some (.own ((turnsOf B d).map Tn.pv)) := by
    rw [r19, b19]
    cases d with
    | still m =>
      obtain ⟨h1, h2⟩ := hd
      simp only [Dd.pv, turnsOf]
      walk_at "s4"
      refine comp_then (List.range m.toNat) (fun (k : Nat) => .int (k : Int)) (fun _ => Tn.rest.pv) (rangeL_zero _) ?_ (by rw [List.length_range]; omega) ?_
      · intro k hk
        walk_at "s4"
        rfl
      walk_at "s4"
      rw [List.map_map]; rfl
    | put x l =>
      obtain ⟨h1, h2⟩ := hd
      have h3 := bz_le B hB x
      have h4 := cells_n B x
      simp only [Dd.pv, turnsOf]
      walk_at "s4"
      refine comp_then (List.range (bz B x)) (fun (k : Nat) => .int (k : Int)) (fun (k : Nat) => Tn.pv (.lay (off B x + k) (l.getD k 0))) (by rw [h4]; exact rangeL_zero _) ?_ (by rw [List.length_range]; omega) ?_
      · intro k hk
        have := List.mem_range.mp hk
        walk_at "s4"
        rfl
      walk_at "s4"
      rw [cut_pv]
    | copy x y =>
      obtain ⟨h1, h2, h5, h6⟩ := hd
      have h3 := bz_le B hB x
      have h4 := cells_n B x
      simp only [Dd.pv, turnsOf]
      walk_at "s4"
      refine comp_then (List.range (bz B x)) (fun (k : Nat) => .int (k : Int)) (fun (k : Nat) => Tn.pv (.move (off B x + k) (off B y + k))) (by rw [h4]; exact rangeL_zero _) ?_ (by rw [List.length_range]; omega) ?_
      · intro k hk
        have := List.mem_range.mp hk
        walk_at "s4"
        rfl
      walk_at "s4"
      rw [cut_pv]
    | grow x m =>
      have h1 : x < B.length := hd
      have h3 := bz_le B hB x
      have h4 := cells_n B x
      simp only [Dd.pv, turnsOf]
      walk_at "s4"
      refine comp_then (List.range (bz B x)) (fun (k : Nat) => .int ((off B x + k : Nat) : Int)) (fun (k : Nat) => Tn.pv (.take (off B x + k))) (cells_map B x) ?_ (by rw [List.length_range]; omega) ?_
      · intro k hk
        walk_at "s4"
        rfl
      walk_at "s4"
      refine comp_then (List.range (bz B x)) (fun (k : Nat) => .int (k : Int)) (fun (k : Nat) => Tn.pv (.back (off B x + k) k m)) (by rw [h4]; exact rangeL_zero _) ?_ (by rw [List.length_range]; omega) ?_
      · intro k hk
        have := List.mem_range.mp hk
        walk_at "s4"
        rfl
      walk_at "s4"
      rw [List.map_append, cut_pv, cut_pv]
    | tick x =>
      obtain ⟨h1, h2⟩ := hd
      have h5 := bz_pos hB h1
      simp only [Dd.pv, turnsOf]
      walk_at "s4"
      rfl
    | is x y m =>
      obtain ⟨h1, h2⟩ := hd
      simp only [Dd.pv, turnsOf]
      walk_at "s4"
      rfl
    | most x y m =>
      obtain ⟨h1, h2⟩ := hd
      simp only [Dd.pv, turnsOf]
      walk_at "s4"
      rfl
    | none x =>
      have h1 : x < B.length := hd
      simp only [Dd.pv, turnsOf]
      walk_at "s4"
      rfl
    | anew x y t =>
      obtain ⟨h1, h2, h3, h4, h5, h6, h7, h8⟩ := hd
      have a1 := bz_le B hB x
      have a2 := cells_n B x
      simp only [Dd.pv, turnsOf]
      walk_at "s4"
      refine comp_then (List.range (bz B y)) (fun (k : Nat) => .int ((off B y + k : Nat) : Int)) (fun (k : Nat) => Tn.pv (.take (off B y + k))) (cells_map B y) ?_ (by rw [List.length_range]; omega) ?_
      · intro k hk
        walk_at "s4"
        rfl
      walk_at "s4"
      refine comp_then (List.range (bz B x)) (fun (k : Nat) => .int (k : Int)) (fun (k : Nat) => Tn.pv (.back (off B x + k) (k + 1) 0)) (by rw [a2]; exact rangeL_zero _) ?_ (by rw [List.length_range]; omega) ?_
      · intro k hk
        have := List.mem_range.mp hk
        walk_at "s4"
        rfl
      walk_at "s4"
      rw [List.map_append, List.map_append, cut_pv, cut_pv]
      rfl
  rw [e]; rfl
/-! a cell of a list is written (slot 1) -/
def stxS (i q : PV) (ss : Ss) (env : PEnv) (F : Fns) : Option Fl := match i, env.getD 1 none with
  | .int n, some (.own xs) => (ixN xs.length n).bind fun j => exs F ss (env.set 1 (some (.own (xs.set j q))))
  | _, _ => none
def stxE (k : E) (q : PV) (ss : Ss) (env : PEnv) (F : Fns) : Option Fl := match env.getD 1 none with
  | some (.own _) => (ev F k env).bind fun kk => (pvb kk.2 kk.1).bind fun i => stxS i q ss kk.2 F
  | _ => none
theorem stx_1 {F : Fns} {k e : E} {ss : Ss} {x0 : Option Sl} {p : List PV} {l : PEnv} : exs F (.cons (.stx 1 k e) ss) (x0 :: some (.own p) :: l) = (ev F e (x0 :: some (.own p) :: l)).bind fun r => (fix r.2 r.1).bind fun q => stxE k q.1 ss q.2 F := by
  rw [exs_cons']
  show ((ev F e (x0 :: some (.own p) :: l)).bind _).bind _ = _
  rw [bind_as]
  congr; funext r
  rw [bind_as]
  congr; funext q
  unfold stxE
  cases q.2.getD 1 none with
  | none => rfl
  | some s =>
    cases s with
    | sh p => rfl
    | own xs =>
      dsimp only
      rw [bind_as]
      congr; funext kk
      unfold stxS
      cases pvb kk.2 kk.1 with
      | none => rfl
      | some i =>
        cases i <;> try rfl
        cases kk.2.getD 1 none with
        | none => rfl
        | some s =>
          cases s with
          | sh p => rfl
          | own xs =>
            dsimp only
            rw [map_as]
            rfl
theorem stxE_1 {F : Fns} {k : E} {q : PV} {ss : Ss} {x0 : Option Sl} {p : List PV} {l : PEnv} : stxE k q ss (x0 :: some (.own p) :: l) F = (ev F k (x0 :: some (.own p) :: l)).bind fun kk => (pvb kk.2 kk.1).bind fun i => stxS i q ss kk.2 F := Eq.trans rfl rfl
theorem stxS_1 {F : Fns} {c : Nat} {v : Int} {ss : Ss} {x0 : Option Sl} {cs : List Int} {l : PEnv} (h : c < cs.length) : stxS (.int (c : Int)) (.int v) ss (x0 :: some (.own (cs.map PV.int)) :: l) F = exs F ss (x0 :: some (.own ((cs.set c v).map PV.int)) :: l) := by
  have e : ixN (cs.map PV.int).length (c : Int) = some c := by
    unfold ixN
    rw [if_pos (by omega), List.length_map, if_pos (by omega), Int.toNat_natCast]
  show ((ixN (cs.map PV.int).length (c : Int)).bind _) = _
  rw [e, List.map_set]
  rfl
/-- what a turn does to the cells and the hand -/
def done (cs hand : List Int) : Tn → List Int × List Int
  | .rest => (cs, hand)
  | .lay c v => (cs.set c v, hand)
  | .tick c => (cs.set c (cs.getD c 0 + 1), hand)
  | .take c => (cs, hand ++ [cs.getD c 0])
  | .back c k n => (cs.set c (hand.getD k 0 + n), hand)
  | .move c o => (cs.set c (cs.getD o 0), hand)
  | .same _ => (cs, hand)
/-- a turn that may be done with T cells and h numbers in hand -/
def okT (T h : Nat) : Tn → Prop
  | .rest => True
  | .lay c _ => c < T
  | .tick c => c < T
  | .take c => c < T
  | .back c k _ => c < T ∧ k < h
  | .move c o => c < T ∧ o < T
  | .same c => c < T ∧ 0 < h
local macro_rules | `(tactic| walk_at "s5") => `(tactic| simp (maxSteps := 4000000) (disch := first | omega | assumption | ((try simp only [List.length_cons, List.length_nil, List.length_append, List.length_map, List.length_range]); omega) | decide) only [↓stx_1, ↓stxE_1, ↓stxS_1, ↓Mir.k_non, ↓Mir.k_bl, ↓Mir.k_int, ↓Mir.k_str, ↓Mir.k_glob, ↓Mir.k_var_sh0, ↓Mir.k_var_own0, ↓Mir.k_var_sh1, ↓Mir.k_var_own1, ↓Mir.k_var_sh2, ↓Mir.k_var_own2, ↓Mir.k_var_sh3, ↓Mir.k_var_own3, ↓Mir.k_var_sh4, ↓Mir.k_var_own4, ↓Mir.k_var_sh5, ↓Mir.k_var_own5, ↓Mir.k_var_sh6, ↓Mir.k_var_own6, ↓Mir.k_var_sh7, ↓Mir.k_var_own7, ↓Mir.k_var_sh8, ↓Mir.k_var_own8, ↓Mir.k_var_sh9, ↓Mir.k_var_own9, ↓Mir.k_var_sh10, ↓Mir.k_var_own10, ↓Mir.k_var_sh11, ↓Mir.k_var_own11, ↓Mir.k_var_sh12, ↓Mir.k_var_own12, ↓Mir.k_var_sh13, ↓Mir.k_var_own13, ↓Mir.k_var_sh14, ↓Mir.k_var_own14, ↓Mir.k_var_sh15, ↓Mir.k_var_own15, ↓Mir.k_var_sh16, ↓Mir.k_var_own16, ↓Mir.k_var_sh17, ↓Mir.k_var_own17, ↓Mir.k_var_sh18, ↓Mir.k_var_own18, ↓Mir.k_var_sh19, ↓Mir.k_var_own19, ↓Mir.k_var_sh20, ↓Mir.k_var_own20, ↓Mir.k_var_sh21, ↓Mir.k_var_own21, ↓Mir.k_var_sh22, ↓Mir.k_var_own22, ↓Mir.k_var_sh23, ↓Mir.k_var_own23, ↓Mir.k_var_sh24, ↓Mir.k_var_own24, ↓Mir.k_var_sh25, ↓Mir.k_var_own25, ↓Mir.k_bin, ↓Mir.k_cmp, ↓Mir.ifB_t, ↓Mir.ifB_f, ↓Mir.k_chain, ↓Mir.boolK_bl, ↓Mir.intK_int, ↓Mir.k_and, ↓Mir.k_or, ↓Mir.k_not, ↓Mir.k_neg, ↓Mir.k_inv, ↓Mir.k_ife, ↓Mir.k_ix, ↓Mir.k_slc, ↓Mir.k_tup, ↓Mir.k_lst, ↓Mir.k_call, ↓Mir.callK_1, ↓Mir.callK_2, ↓Mir.callK_3, ↓Mir.callK_4, ↓Mir.callK_5, ↓Mir.callK_6, ↓Mir.callK_7, ↓Mir.callK_8, ↓Mir.callK_Int, ↓Mir.callK_Bool, ↓Mir.callK_Str, ↓Mir.callK_non, ↓Mir.k_blt, ↓Mir.k_isi, ↓Mir.k_meth, ↓Mir.k_comp, ↓Mir.k_no, ↓Mir.k_some, ↓Mir.k_yes, ↓Mir.k_on, ↓Mir.k_nil, ↓Mir.k_cons, ↓Mir.t_val, ↓Mir.t_cmp, ↓Mir.t_chain, ↓Mir.t_and, ↓Mir.t_or, ↓Mir.t_not, ↓Mir.i_val, ↓Mir.i_range1, ↓Mir.i_range2, ↓Mir.lstK_lst, ↓Mir.i_enum, ↓Mir.seqK_lst, ↓Mir.seqK_tup, ↓Mir.i_rev, ↓Mir.i_zip, ↓Mir.p_sh, ↓Mir.p_own, ↓Mir.ps_nil, ↓Mir.ps_cons, ↓Mir.f_sh, ↓Mir.f_own, ↓Mir.fs_nil, ↓Mir.fs_cons, ↓Mir.fo_t, ↓Mir.p_b_own0, ↓Mir.p_b_sh0, ↓Mir.f_b0, ↓Mir.fo_b0, ↓Mir.p_b_own1, ↓Mir.p_b_sh1, ↓Mir.f_b1, ↓Mir.fo_b1, ↓Mir.p_b_own2, ↓Mir.p_b_sh2, ↓Mir.f_b2, ↓Mir.fo_b2, ↓Mir.p_b_own3, ↓Mir.p_b_sh3, ↓Mir.f_b3, ↓Mir.fo_b3, ↓Mir.p_b_own4, ↓Mir.p_b_sh4, ↓Mir.f_b4, ↓Mir.fo_b4, ↓Mir.p_b_own5, ↓Mir.p_b_sh5, ↓Mir.f_b5, ↓Mir.fo_b5, ↓Mir.p_b_own6, ↓Mir.p_b_sh6, ↓Mir.f_b6, ↓Mir.fo_b6, ↓Mir.p_b_own7, ↓Mir.p_b_sh7, ↓Mir.f_b7, ↓Mir.fo_b7, ↓Mir.p_b_own8, ↓Mir.p_b_sh8, ↓Mir.f_b8, ↓Mir.fo_b8, ↓Mir.p_b_own9, ↓Mir.p_b_sh9, ↓Mir.f_b9, ↓Mir.fo_b9, ↓Mir.p_b_own10, ↓Mir.p_b_sh10, ↓Mir.f_b10, ↓Mir.fo_b10, ↓Mir.p_b_own11, ↓Mir.p_b_sh11, ↓Mir.f_b11, ↓Mir.fo_b11, ↓Mir.p_b_own12, ↓Mir.p_b_sh12, ↓Mir.f_b12, ↓Mir.fo_b12, ↓Mir.p_b_own13, ↓Mir.p_b_sh13, ↓Mir.f_b13, ↓Mir.fo_b13, ↓Mir.p_b_own14, ↓Mir.p_b_sh14, ↓Mir.f_b14, ↓Mir.fo_b14, ↓Mir.p_b_own15, ↓Mir.p_b_sh15, ↓Mir.f_b15, ↓Mir.fo_b15, ↓Mir.p_b_own16, ↓Mir.p_b_sh16, ↓Mir.f_b16, ↓Mir.fo_b16, ↓Mir.p_b_own17, ↓Mir.p_b_sh17, ↓Mir.f_b17, ↓Mir.fo_b17, ↓Mir.p_b_own18, ↓Mir.p_b_sh18, ↓Mir.f_b18, ↓Mir.fo_b18, ↓Mir.p_b_own19, ↓Mir.p_b_sh19, ↓Mir.f_b19, ↓Mir.fo_b19, ↓Mir.p_b_own20, ↓Mir.p_b_sh20, ↓Mir.f_b20, ↓Mir.fo_b20, ↓Mir.p_b_own21, ↓Mir.p_b_sh21, ↓Mir.f_b21, ↓Mir.fo_b21, ↓Mir.p_b_own22, ↓Mir.p_b_sh22, ↓Mir.f_b22, ↓Mir.fo_b22, ↓Mir.p_b_own23, ↓Mir.p_b_sh23, ↓Mir.f_b23, ↓Mir.fo_b23, ↓Mir.p_b_own24, ↓Mir.p_b_sh24, ↓Mir.f_b24, ↓Mir.fo_b24, ↓Mir.p_b_own25, ↓Mir.p_b_sh25, ↓Mir.f_b25, ↓Mir.fo_b25, ↓Mir.pv_sh, ↓Mir.pv_own, ↓Mir.bt_name0, ↓Mir.sa_0, ↓Mir.bt_name1, ↓Mir.sa_1, ↓Mir.bt_name2, ↓Mir.sa_2, ↓Mir.bt_name3, ↓Mir.sa_3, ↓Mir.bt_name4, ↓Mir.sa_4, ↓Mir.bt_name5, ↓Mir.sa_5, ↓Mir.bt_name6, ↓Mir.sa_6, ↓Mir.bt_name7, ↓Mir.sa_7, ↓Mir.bt_name8, ↓Mir.sa_8, ↓Mir.bt_name9, ↓Mir.sa_9, ↓Mir.bt_name10, ↓Mir.sa_10, ↓Mir.bt_name11, ↓Mir.sa_11, ↓Mir.bt_name12, ↓Mir.sa_12, ↓Mir.bt_name13, ↓Mir.sa_13, ↓Mir.bt_name14, ↓Mir.sa_14, ↓Mir.bt_name15, ↓Mir.sa_15, ↓Mir.bt_name16, ↓Mir.sa_16, ↓Mir.bt_name17, ↓Mir.sa_17, ↓Mir.bt_name18, ↓Mir.sa_18, ↓Mir.bt_name19, ↓Mir.sa_19, ↓Mir.bt_name20, ↓Mir.sa_20, ↓Mir.bt_name21, ↓Mir.sa_21, ↓Mir.bt_name22, ↓Mir.sa_22, ↓Mir.bt_name23, ↓Mir.sa_23, ↓Mir.bt_name24, ↓Mir.sa_24, ↓Mir.bt_name25, ↓Mir.sa_25, ↓Mir.sa_end, ↓Mir.bt_tup, ↓Mir.b_Add, ↓Mir.b_Sub, ↓Mir.b_BitAnd, ↓Mir.b_BitOr, ↓Mir.b_BitXor, ↓Mir.b_Mult, ↓Mir.b_Mod, ↓Mir.b_FloorDiv, ↓Mir.b_Pow, ↓Mir.b_LShift, ↓Mir.b_RShift, ↓Mir.b_Add_str, ↓Mir.b_Add_lst, ↓Mir.b_Add_tup, ↓Mir.c_Lt, ↓Mir.c_LtE, ↓Mir.c_Gt, ↓Mir.c_GtE, ↓Mir.c_Eq, ↓Mir.c_NotEq, ↓Mir.c_Eq_str, ↓Mir.c_NotEq_str, ↓Mir.c_Eq_bl, ↓Mir.c_NotEq_bl, ↓Mir.c_Eq_int_str, ↓Mir.c_NotEq_int_str, ↓Mir.c_Eq_str_int, ↓Mir.c_NotEq_str_int, ↓Mir.c_Eq_bl_str, ↓Mir.c_NotEq_bl_str, ↓Mir.c_Eq_str_bl, ↓Mir.c_NotEq_str_bl, ↓Mir.c_Eq_int_non, ↓Mir.c_NotEq_int_non, ↓Mir.c_Eq_str_non, ↓Mir.c_NotEq_str_non, ↓Mir.c_Eq_bl_non, ↓Mir.c_NotEq_bl_non, ↓Mir.c_Is_int, ↓Mir.c_IsNot_int, ↓Mir.c_Is_str, ↓Mir.c_IsNot_str, ↓Mir.c_Is_bl, ↓Mir.c_IsNot_bl, ↓Mir.c_Is_tup, ↓Mir.c_IsNot_tup, ↓Mir.c_Is_lst, ↓Mir.c_IsNot_lst, ↓Mir.c_Is_non, ↓Mir.c_IsNot_non, ↓Mir.c_In, ↓Mir.c_NotIn, ↓Mir.tr_bl, ↓Mir.tr_int, ↓Mir.tr_lst, ↓Mir.tr_tup, ↓Mir.tr_non, ↓Mir.x_lst, ↓Mir.x_tup, ↓Mir.at_0, ↓Mir.at_1, ↓Mir.at_2, ↓Mir.at_3, ↓Mir.at_4, ↓Mir.at_5, ↓Mir.at_6, ↓Mir.at_7, ↓Mir.sl_lst, ↓Mir.sl_tup, ↓Mir.bl_len_lst, ↓Mir.bl_len_tup, ↓Mir.bl_abs, ↓Mir.bl_max, ↓Mir.bl_min, ↓Mir.bl_int_int, ↓Mir.bl_int_bl, ↓Mir.bl_list_lst, ↓Mir.bl_list_tup, ↓Mir.bl_tuple_lst, ↓Mir.bl_tuple_tup, ↓Mir.bl_sum, ↓Mir.bl_all, ↓Mir.bl_any, ↓Mir.bl_sorted, ↓Mir.as_ints, ↓Mir.as_bls, ↓Mir.as_strs, ↓Mir.is_non_tuple, ↓Mir.is_non_list, ↓Mir.is_non_bool, ↓Mir.is_non_int, ↓Mir.is_non_str, ↓Mir.is_bl_tuple, ↓Mir.is_bl_list, ↓Mir.is_bl_bool, ↓Mir.is_bl_int, ↓Mir.is_bl_str, ↓Mir.is_int_tuple, ↓Mir.is_int_list, ↓Mir.is_int_bool, ↓Mir.is_int_int, ↓Mir.is_int_str, ↓Mir.is_str_tuple, ↓Mir.is_str_list, ↓Mir.is_str_bool, ↓Mir.is_str_int, ↓Mir.is_str_str, ↓Mir.is_lst_tuple, ↓Mir.is_lst_list, ↓Mir.is_lst_bool, ↓Mir.is_lst_int, ↓Mir.is_lst_str, ↓Mir.is_tup_tuple, ↓Mir.is_tup_list, ↓Mir.is_tup_bool, ↓Mir.is_tup_int, ↓Mir.is_tup_str, ↓Mir.it_lst, ↓Mir.it_tup, ↓Mir.z_lst, ↓Mir.z_tup, ↓Mir.s_nil, ↓Mir.s_set, ↓Mir.s_expr, ↓Mir.s_ret, ↓Mir.s_retN, ↓Mir.s_pass, ↓Mir.s_brk, ↓Mir.ifS_t, ↓Mir.ifS_f, ↓Mir.s_if, ↓Mir.s_for, ↓Mir.s_while, ↓Mir.s_app0, ↓Mir.appE_0, ↓Mir.s_ext0, ↓Mir.extE_0, ↓Mir.setE_0, ↓Mir.s_app1, ↓Mir.appE_1, ↓Mir.s_ext1, ↓Mir.extE_1, ↓Mir.setE_1, ↓Mir.s_app2, ↓Mir.appE_2, ↓Mir.s_ext2, ↓Mir.extE_2, ↓Mir.setE_2, ↓Mir.s_app3, ↓Mir.appE_3, ↓Mir.s_ext3, ↓Mir.extE_3, ↓Mir.setE_3, ↓Mir.s_app4, ↓Mir.appE_4, ↓Mir.s_ext4, ↓Mir.extE_4, ↓Mir.setE_4, ↓Mir.s_app5, ↓Mir.appE_5, ↓Mir.s_ext5, ↓Mir.extE_5, ↓Mir.setE_5, ↓Mir.s_app6, ↓Mir.appE_6, ↓Mir.s_ext6, ↓Mir.extE_6, ↓Mir.setE_6, ↓Mir.s_app7, ↓Mir.appE_7, ↓Mir.s_ext7, ↓Mir.extE_7, ↓Mir.setE_7, ↓Mir.s_app8, ↓Mir.appE_8, ↓Mir.s_ext8, ↓Mir.extE_8, ↓Mir.setE_8, ↓Mir.s_app9, ↓Mir.appE_9, ↓Mir.s_ext9, ↓Mir.extE_9, ↓Mir.setE_9, ↓Mir.s_app10, ↓Mir.appE_10, ↓Mir.s_ext10, ↓Mir.extE_10, ↓Mir.setE_10, ↓Mir.s_app11, ↓Mir.appE_11, ↓Mir.s_ext11, ↓Mir.extE_11, ↓Mir.setE_11, ↓Mir.s_app12, ↓Mir.appE_12, ↓Mir.s_ext12, ↓Mir.extE_12, ↓Mir.setE_12, ↓Mir.s_app13, ↓Mir.appE_13, ↓Mir.s_ext13, ↓Mir.extE_13, ↓Mir.setE_13, ↓Mir.s_app14, ↓Mir.appE_14, ↓Mir.s_ext14, ↓Mir.extE_14, ↓Mir.setE_14, ↓Mir.s_app15, ↓Mir.appE_15, ↓Mir.s_ext15, ↓Mir.extE_15, ↓Mir.setE_15, ↓Mir.s_app16, ↓Mir.appE_16, ↓Mir.s_ext16, ↓Mir.extE_16, ↓Mir.setE_16, ↓Mir.s_app17, ↓Mir.appE_17, ↓Mir.s_ext17, ↓Mir.extE_17, ↓Mir.setE_17, ↓Mir.s_app18, ↓Mir.appE_18, ↓Mir.s_ext18, ↓Mir.extE_18, ↓Mir.setE_18, ↓Mir.s_app19, ↓Mir.appE_19, ↓Mir.s_ext19, ↓Mir.extE_19, ↓Mir.setE_19, ↓Mir.s_app20, ↓Mir.appE_20, ↓Mir.s_ext20, ↓Mir.extE_20, ↓Mir.setE_20, ↓Mir.s_app21, ↓Mir.appE_21, ↓Mir.s_ext21, ↓Mir.extE_21, ↓Mir.setE_21, ↓Mir.s_app22, ↓Mir.appE_22, ↓Mir.s_ext22, ↓Mir.extE_22, ↓Mir.setE_22, ↓Mir.s_app23, ↓Mir.appE_23, ↓Mir.s_ext23, ↓Mir.extE_23, ↓Mir.setE_23, ↓Mir.s_app24, ↓Mir.appE_24, ↓Mir.s_ext24, ↓Mir.extE_24, ↓Mir.setE_24, ↓Mir.s_app25, ↓Mir.appE_25, ↓Mir.s_ext25, ↓Mir.extE_25, ↓Mir.setE_25, ↓Mir.ifS_not, ↓Mir.ifS_pos, ↓Mir.ifS_neg, ↓Mir.ifB_not, ↓Mir.ifB_pos, ↓Mir.ifB_neg, ↓Mir.turnC_eq, ↓Mir.shNs_nil, ↓Mir.shNs_cons, ↓Mir.shN1_ok, Mir.shN1_none, Mir.shN1_sh, Mir.wipe_nil, Mir.wipe_cons, Mir.back_nil, Mir.back_cons, List.set_cons_zero, List.set_cons_succ, List.getD_cons_zero, List.getD_cons_succ, List.map_cons, List.map_nil, ↓Mir.limK_le, ↓Mir.inRK_ok, ↓Mir.okK_ok, ↓Mir.appK_ok, ↓Mir.extK_ok, ↓Mir.finK_ret, ↓Mir.finK_next, ↓Mir.finK_for, ↓Mir.finK_while, ↓Mir.finK_comp, ↓Mir.finK_ifB, ↓Mir.finK_ifS, Mir.app_nil, Mir.app_cons, Mir.flK_next, Mir.flK_ret, Mir.flK_brk, Option.bind_none, decide_true, decide_false, Bool.not_true, Bool.not_false, Mir.pv_sh, Mir.pv_own, List.cons_append, List.nil_append, Mir.okK_ok, Int.reducePow, Int.reduceToNat, Int.reduceMul, Int.reduceAdd, Int.reduceSub, Int.reduceNeg, Nat.reducePow, Nat.reduceMul, Nat.reduceAdd, Nat.reduceSub, Int.one_mul, Int.zero_add, Int.zero_mul, ↓Mir.atI_nat, Int.toNat_natCast])
theorem done_k {cs hand : List Int} {t : Tn} {n : Nat} {γ : Type} {c : Sl → Option γ} (hn : 1 ≤ n) (ht : okT cs.length hand.length t) (hc : hand.length ≤ 1000) : (fns P n 20 [t.pv, .tup (cs.map PV.int), .tup (hand.map PV.int)]).bind c = c (.sh (.tup [.tup ((done cs hand t).1.map PV.int), .tup ((done cs hand t).2.map PV.int)])) := by
  obtain ⟨n, rfl⟩ : ∃ j, n = j + 1 := ⟨n - 1, by omega⟩
  have e : fns P (n + 1) 20 [t.pv, .tup (cs.map PV.int), .tup (hand.map PV.int)] = some (.sh (.tup [.tup ((done cs hand t).1.map PV.int), .tup ((done cs hand t).2.map PV.int)])) := by
    rw [r20, b20]
    cases t with
    | rest => simp only [Tn.pv, done]; walk_at "s5"
    | lay a v =>
      have h1 : a < cs.length := ht
      simp only [Tn.pv, done]; walk_at "s5"
    | tick a =>
      have h1 : a < cs.length := ht
      simp only [Tn.pv, done]; walk_at "s5"
    | take a =>
      have h1 : a < cs.length := ht
      simp only [Tn.pv, done, List.map_append]; walk_at "s5"
    | back a k m =>
      obtain ⟨h1, h2⟩ := ht
      simp only [Tn.pv, done]; walk_at "s5"
    | move a o =>
      obtain ⟨h1, h2⟩ := ht
      simp only [Tn.pv, done]; walk_at "s5"
    | same a =>
      obtain ⟨h1, h2⟩ := ht
      simp only [Tn.pv, done]; walk_at "s5"
  rw [e]; rfl
/-- the turns can be done one after another -/
def Fit (T : Nat) : Nat → List Tn → Prop
  | _, [] => True
  | h, t :: ts => okT T h t ∧ Fit T (match t with | .take _ => h + 1 | _ => h) ts
theorem fit_rest (T : Nat) {α : Type} : ∀ (l : List α) (h : Nat), Fit T h (l.map fun _ => Tn.rest)
  | [], _ => trivial
  | _ :: l, h => ⟨trivial, fit_rest T l h⟩
theorem bz_two {B : List Bx} (hB : goodB B) {x : Nat} (h : x < B.length) : bz B x = 1 ∨ bz B x = 2 := by
  have := bz_pos hB h
  have := bz_le B hB x
  omega
theorem cut_one {B : List Bx} {x : Nat} (h : bz B x = 1) (f : Nat → Nat → Tn) : cutN B x f = [f (off B x + 0) 0] := by unfold cutN; rw [h]; rfl
theorem cut_two {B : List Bx} {x : Nat} (h : bz B x = 2) (f : Nat → Nat → Tn) : cutN B x f = [f (off B x + 0) 0, f (off B x + 1) 1] := by unfold cutN; rw [h]; rfl
theorem fit_deed {B : List Bx} {rest : Int} {d : Dd} (hB : goodB B) (hd : goodD B rest d) (hr : rest ≤ 1000) : Fit (off B B.length) 0 (turnsOf B d) ∧ 0 < (turnsOf B d).length ∧ (turnsOf B d).length ≤ 1000 := by
  cases d with
  | still m =>
    refine ⟨fit_rest _ _ _, ?_, ?_⟩ <;> simp only [turnsOf, List.length_map, List.length_range] <;> (have := hd.1; have := hd.2; omega)
  | put x l =>
    obtain ⟨h1, h2⟩ := hd
    rcases bz_two hB h1 with hb | hb
    · have a := off_lt B x 0 h1 (by omega)
      simp only [turnsOf, cut_one hb]
      exact ⟨⟨a, trivial⟩, by simp, by simp⟩
    · have a := off_lt B x 0 h1 (by omega)
      have b := off_lt B x 1 h1 (by omega)
      simp only [turnsOf, cut_two hb]
      exact ⟨⟨a, b, trivial⟩, by simp, by simp⟩
  | copy x y =>
    obtain ⟨h1, h2, _, h6⟩ := hd
    rcases bz_two hB h1 with hb | hb
    · have a := off_lt B x 0 h1 (by omega)
      have a' := off_lt B y 0 h2 (by omega)
      simp only [turnsOf, cut_one hb]
      exact ⟨⟨⟨a, a'⟩, trivial⟩, by simp, by simp⟩
    · have a := off_lt B x 0 h1 (by omega)
      have b := off_lt B x 1 h1 (by omega)
      have a' := off_lt B y 0 h2 (by omega)
      have b' := off_lt B y 1 h2 (by omega)
      simp only [turnsOf, cut_two hb]
      exact ⟨⟨⟨a, a'⟩, ⟨b, b'⟩, trivial⟩, by simp, by simp⟩
  | grow x m =>
    have h1 : x < B.length := hd
    rcases bz_two hB h1 with hb | hb
    · have a := off_lt B x 0 h1 (by omega)
      simp only [turnsOf, cut_one hb, List.cons_append, List.nil_append]
      exact ⟨⟨a, ⟨a, Nat.le_of_ble_eq_true rfl⟩, trivial⟩, by simp, by simp⟩
    · have a := off_lt B x 0 h1 (by omega)
      have b := off_lt B x 1 h1 (by omega)
      simp only [turnsOf, cut_two hb, List.cons_append, List.nil_append]
      exact ⟨⟨a, b, ⟨a, Nat.le_of_ble_eq_true rfl⟩, ⟨b, Nat.le_of_ble_eq_true rfl⟩, trivial⟩, by simp, by simp⟩
  | tick x =>
    obtain ⟨h1, h2⟩ := hd
    have a := off_lt B x 0 h1 (by omega)
    exact ⟨⟨a, trivial⟩, by simp [turnsOf], by simp [turnsOf]⟩
  | is x y m => exact ⟨⟨trivial, trivial⟩, by simp [turnsOf], by simp [turnsOf]⟩
  | most x y m => exact ⟨⟨trivial, trivial⟩, by simp [turnsOf], by simp [turnsOf]⟩
  | none x => exact ⟨⟨trivial, trivial⟩, by simp [turnsOf], by simp [turnsOf]⟩
  | anew x y t =>
    obtain ⟨h1, h2, h3, h4, h5, h6, h7, h8⟩ := hd
    have c := off_lt B t 0 h5 (by omega)
    rcases bz_two hB h1 with hb | hb
    · have a := off_lt B x 0 h1 (by omega)
      have a' := off_lt B y 0 h2 (by omega)
      simp only [turnsOf, cut_one hb, cut_one (h4 ▸ hb : bz B y = 1), List.cons_append, List.nil_append]
      exact ⟨⟨c, a', ⟨c, Nat.le_of_ble_eq_true rfl⟩, ⟨a, Nat.le_of_ble_eq_true rfl⟩, trivial⟩, by simp, by simp⟩
    · have a := off_lt B x 0 h1 (by omega)
      have b := off_lt B x 1 h1 (by omega)
      have a' := off_lt B y 0 h2 (by omega)
      have b' := off_lt B y 1 h2 (by omega)
      simp only [turnsOf, cut_two hb, cut_two (h4 ▸ hb : bz B y = 2), List.cons_append, List.nil_append]
      exact ⟨⟨c, a', b', ⟨c, Nat.le_of_ble_eq_true rfl⟩, ⟨a, Nat.le_of_ble_eq_true rfl⟩, ⟨b, Nat.le_of_ble_eq_true rfl⟩, trivial⟩, by simp, by simp⟩
/-- a frame that fits -/
def okF (B : List Bx) (R : List Rw) (f : Fr) : Prop := f.row < R.length ∧ (f.place ≤ (R.getD f.row r0w).2.2.length ∧ f.hand.length ≤ 2000) ∧
  (f.place < (R.getD f.row r0w).2.2.length → f.turn < (turnsOf B ((R.getD f.row r0w).2.2.getD f.place q0).1).length ∧ f.hand.length ≤ f.turn ∧ Fit (off B B.length) f.hand.length ((turnsOf B ((R.getD f.row r0w).2.2.getD f.place q0).1).drop f.turn))
/-- a state that fits -/
def okS (B : List Bx) (R : List Rw) (m : Nat) (L : List Fr) (cs : List Int) : Prop := 0 < L.length ∧ L.length ≤ m ∧ (L.getD 0 f0r).row = 0 ∧ (∀ f ∈ L, okF B R f) ∧ cs.length = off B B.length
theorem okS_goodF {B : List Bx} {R : List Rw} {m : Nat} {L : List Fr} {cs : List Int} (h : okS B R m L cs) (hm : m ≤ 1000) : goodF R L := ⟨h.1, by have := h.2.1; omega, fun f hf => ⟨(h.2.2.2.1 f hf).1, (h.2.2.2.1 f hf).2.1.1⟩⟩
theorem cut_init (L : List Fr) : cutP (L.map fun f => PV.tup [.int (f.row : Int), .int (f.place : Int), .int (f.turn : Int), .tup (f.hand.map PV.int)]) none (some (-1)) = (L.take (L.length - 1)).map fun f => PV.tup [.int (f.row : Int), .int (f.place : Int), .int (f.turn : Int), .tup (f.hand.map PV.int)] := by
  unfold cutP HT.sIx
  rw [List.length_map]
  simp only [List.drop_zero, Nat.sub_zero]
  rw [if_pos (by decide), List.map_take]
  congr 1
  omega
def Tn.kind : Tn → Str
  | .rest => Str.ofString "rest" | .lay _ _ => Str.ofString "lay" | .tick _ => Str.ofString "tick" | .take _ => Str.ofString "take" | .back _ _ _ => Str.ofString "back" | .move _ _ => Str.ofString "move" | .same _ => Str.ofString "same"
def Tn.spot : Tn → Nat
  | .rest => 0 | .lay c _ => c | .tick c => c | .take c => c | .back c _ _ => c | .move c _ => c | .same c => c
theorem kind_at {t : Tn} {γ : Type} {k : PV → Option γ} : (ix2 t.pv (.int 0)).bind k = k (.str t.kind) := by cases t <;> rfl
theorem spot_at {t : Tn} {γ : Type} {k : PV → Option γ} : (ix2 t.pv (.int 1)).bind k = k (.int (t.spot : Nat)) := by cases t <;> rfl
theorem tn_at {ts : List Tn} {i : Nat} {γ : Type} {k : PV → Option γ} (h : i < ts.length) : (atI (ts.map Tn.pv) (i : Int)).bind k = k ((ts.getD i .rest).pv) := atI_get Tn.pv .rest h
theorem same_kind {t : Tn} {T h : Nat} (hk : t.kind = Str.ofString "same") (ht : okT T h t) : t.spot < T ∧ 0 < h := by
  cases t with
  | same c => exact ht
  | rest => exact absurd hk (by decide)
  | lay c v => exact absurd hk (by show ¬ (Str.ofString "lay" = Str.ofString "same"); decide)
  | tick c => exact absurd hk (by show ¬ (Str.ofString "tick" = Str.ofString "same"); decide)
  | take c => exact absurd hk (by show ¬ (Str.ofString "take" = Str.ofString "same"); decide)
  | back c k n => exact absurd hk (by show ¬ (Str.ofString "back" = Str.ofString "same"); decide)
  | move c o => exact absurd hk (by show ¬ (Str.ofString "move" = Str.ofString "same"); decide)
theorem done_len (cs hand : List Int) (t : Tn) : (done cs hand t).1.length = cs.length ∧ (done cs hand t).2.length = (match t with | .take _ => hand.length + 1 | _ => hand.length) := by
  cases t <;> simp [done]
theorem turns9 {B : List Bx} {d : Dd} {n : Nat} {γ : Type} {c : Sl → Option γ} (hn : 2 ≤ n) (hB : goodB B) (hd : goodD B 9 d) : (fns P n 19 [.tup (B.map fun b => PV.tup [.str b.1, .tup (b.2.map PV.int)]), d.pv]).bind c = c (.own ((turnsOf B d).map Tn.pv)) := turns_k hn hB hd (by decide)
theorem drop_next {ts : List Tn} {i : Nat} (h : i < ts.length) : ts.drop i = ts.getD i .rest :: ts.drop (i + 1) := by
  rw [List.drop_eq_getElem_cons h, List.getD_eq_getElem?_getD, List.getElem?_eq_getElem h]; rfl
theorem okS_put {B : List Bx} {R : List Rw} {m : Nat} {L : List Fr} {cs cs' : List Int} {f : Fr} (h : okS B R m L cs) (hf : okF B R f) (hr : f.row = (L.getD (L.length - 1) f0r).row) (hc : cs'.length = cs.length) : okS B R m (L.take (L.length - 1) ++ [f]) cs' := by
  obtain ⟨h1, h2, h3, h4, h5⟩ := h
  have hl : (L.take (L.length - 1)).length = L.length - 1 := by rw [List.length_take]; omega
  refine ⟨by rw [List.length_append, hl]; simp, by rw [List.length_append, hl]; simp only [List.length_cons, List.length_nil]; omega, ?_, fun g hg => ?_, by omega⟩
  · rcases Nat.lt_or_ge 1 L.length with h | h
    · rw [List.getD_eq_getElem?_getD, List.getElem?_append_left (by omega), List.getElem?_take_of_lt (by omega), ← List.getD_eq_getElem?_getD]
      exact h3
    · have e : L.length - 1 = 0 := by omega
      rw [e] at hr ⊢
      show f.row = 0
      rw [hr, h3]
  · rcases List.mem_append.mp hg with hg | hg
    · exact h4 g (List.mem_of_mem_take hg)
    · rw [List.mem_singleton.mp hg]; exact hf
theorem okS_pop {B : List Bx} {R : List Rw} {m : Nat} {L : List Fr} {cs cs' : List Int} (h : okS B R m L cs) (hr : 0 < (L.getD (L.length - 1) f0r).row) (hc : cs'.length = cs.length) : okS B R m (L.take (L.length - 1)) cs' := by
  obtain ⟨h1, h2, h3, h4, h5⟩ := h
  have hl : (L.take (L.length - 1)).length = L.length - 1 := by rw [List.length_take]; omega
  have h6 : 1 < L.length := by
    rcases Nat.lt_or_ge 1 L.length with h | h
    · exact h
    · rw [show L.length - 1 = 0 by omega, h3] at hr; omega
  refine ⟨by omega, by omega, ?_, fun g hg => h4 g (List.mem_of_mem_take hg), by omega⟩
  rw [List.getD_eq_getElem?_getD, List.getElem?_take_of_lt (by omega), ← List.getD_eq_getElem?_getD]
  exact h3
local macro_rules | `(tactic| walk_at "s8") => `(tactic| simp (maxSteps := 4000000) (disch := first | omega | assumption | ((try simp only [List.length_cons, List.length_nil, List.length_append, List.length_map, List.length_range]); omega) | decide) only [↓rw_at, ↓pl_at, ↓fr_last, ↓turns9, ↓tn_at, ↓kind_at, ↓spot_at, ↓Mir.atI_int, ↓done_k, ↓Mir.k_non, ↓Mir.k_bl, ↓Mir.k_int, ↓Mir.k_str, ↓Mir.k_glob, ↓Mir.k_var_sh0, ↓Mir.k_var_own0, ↓Mir.k_var_sh1, ↓Mir.k_var_own1, ↓Mir.k_var_sh2, ↓Mir.k_var_own2, ↓Mir.k_var_sh3, ↓Mir.k_var_own3, ↓Mir.k_var_sh4, ↓Mir.k_var_own4, ↓Mir.k_var_sh5, ↓Mir.k_var_own5, ↓Mir.k_var_sh6, ↓Mir.k_var_own6, ↓Mir.k_var_sh7, ↓Mir.k_var_own7, ↓Mir.k_var_sh8, ↓Mir.k_var_own8, ↓Mir.k_var_sh9, ↓Mir.k_var_own9, ↓Mir.k_var_sh10, ↓Mir.k_var_own10, ↓Mir.k_var_sh11, ↓Mir.k_var_own11, ↓Mir.k_var_sh12, ↓Mir.k_var_own12, ↓Mir.k_var_sh13, ↓Mir.k_var_own13, ↓Mir.k_var_sh14, ↓Mir.k_var_own14, ↓Mir.k_var_sh15, ↓Mir.k_var_own15, ↓Mir.k_var_sh16, ↓Mir.k_var_own16, ↓Mir.k_var_sh17, ↓Mir.k_var_own17, ↓Mir.k_var_sh18, ↓Mir.k_var_own18, ↓Mir.k_var_sh19, ↓Mir.k_var_own19, ↓Mir.k_var_sh20, ↓Mir.k_var_own20, ↓Mir.k_var_sh21, ↓Mir.k_var_own21, ↓Mir.k_var_sh22, ↓Mir.k_var_own22, ↓Mir.k_var_sh23, ↓Mir.k_var_own23, ↓Mir.k_var_sh24, ↓Mir.k_var_own24, ↓Mir.k_var_sh25, ↓Mir.k_var_own25, ↓Mir.k_bin, ↓Mir.k_cmp, ↓Mir.ifB_t, ↓Mir.ifB_f, ↓Mir.k_chain, ↓Mir.boolK_bl, ↓Mir.intK_int, ↓Mir.k_and, ↓Mir.k_or, ↓Mir.k_not, ↓Mir.k_neg, ↓Mir.k_inv, ↓Mir.k_ife, ↓Mir.k_ix, ↓Mir.k_slc, ↓Mir.k_tup, ↓Mir.k_lst, ↓Mir.k_call, ↓Mir.callK_1, ↓Mir.callK_2, ↓Mir.callK_3, ↓Mir.callK_4, ↓Mir.callK_5, ↓Mir.callK_6, ↓Mir.callK_7, ↓Mir.callK_8, ↓Mir.callK_Int, ↓Mir.callK_Bool, ↓Mir.callK_Str, ↓Mir.callK_non, ↓Mir.k_blt, ↓Mir.k_isi, ↓Mir.k_meth, ↓Mir.k_comp, ↓Mir.k_no, ↓Mir.k_some, ↓Mir.k_yes, ↓Mir.k_on, ↓Mir.k_nil, ↓Mir.k_cons, ↓Mir.t_val, ↓Mir.t_cmp, ↓Mir.t_chain, ↓Mir.t_and, ↓Mir.t_or, ↓Mir.t_not, ↓Mir.i_val, ↓Mir.i_range1, ↓Mir.i_range2, ↓Mir.lstK_lst, ↓Mir.i_enum, ↓Mir.seqK_lst, ↓Mir.seqK_tup, ↓Mir.i_rev, ↓Mir.i_zip, ↓Mir.p_sh, ↓Mir.p_own, ↓Mir.ps_nil, ↓Mir.ps_cons, ↓Mir.f_sh, ↓Mir.f_own, ↓Mir.fs_nil, ↓Mir.fs_cons, ↓Mir.fo_t, ↓Mir.p_b_own0, ↓Mir.p_b_sh0, ↓Mir.f_b0, ↓Mir.fo_b0, ↓Mir.p_b_own1, ↓Mir.p_b_sh1, ↓Mir.f_b1, ↓Mir.fo_b1, ↓Mir.p_b_own2, ↓Mir.p_b_sh2, ↓Mir.f_b2, ↓Mir.fo_b2, ↓Mir.p_b_own3, ↓Mir.p_b_sh3, ↓Mir.f_b3, ↓Mir.fo_b3, ↓Mir.p_b_own4, ↓Mir.p_b_sh4, ↓Mir.f_b4, ↓Mir.fo_b4, ↓Mir.p_b_own5, ↓Mir.p_b_sh5, ↓Mir.f_b5, ↓Mir.fo_b5, ↓Mir.p_b_own6, ↓Mir.p_b_sh6, ↓Mir.f_b6, ↓Mir.fo_b6, ↓Mir.p_b_own7, ↓Mir.p_b_sh7, ↓Mir.f_b7, ↓Mir.fo_b7, ↓Mir.p_b_own8, ↓Mir.p_b_sh8, ↓Mir.f_b8, ↓Mir.fo_b8, ↓Mir.p_b_own9, ↓Mir.p_b_sh9, ↓Mir.f_b9, ↓Mir.fo_b9, ↓Mir.p_b_own10, ↓Mir.p_b_sh10, ↓Mir.f_b10, ↓Mir.fo_b10, ↓Mir.p_b_own11, ↓Mir.p_b_sh11, ↓Mir.f_b11, ↓Mir.fo_b11, ↓Mir.p_b_own12, ↓Mir.p_b_sh12, ↓Mir.f_b12, ↓Mir.fo_b12, ↓Mir.p_b_own13, ↓Mir.p_b_sh13, ↓Mir.f_b13, ↓Mir.fo_b13, ↓Mir.p_b_own14, ↓Mir.p_b_sh14, ↓Mir.f_b14, ↓Mir.fo_b14, ↓Mir.p_b_own15, ↓Mir.p_b_sh15, ↓Mir.f_b15, ↓Mir.fo_b15, ↓Mir.p_b_own16, ↓Mir.p_b_sh16, ↓Mir.f_b16, ↓Mir.fo_b16, ↓Mir.p_b_own17, ↓Mir.p_b_sh17, ↓Mir.f_b17, ↓Mir.fo_b17, ↓Mir.p_b_own18, ↓Mir.p_b_sh18, ↓Mir.f_b18, ↓Mir.fo_b18, ↓Mir.p_b_own19, ↓Mir.p_b_sh19, ↓Mir.f_b19, ↓Mir.fo_b19, ↓Mir.p_b_own20, ↓Mir.p_b_sh20, ↓Mir.f_b20, ↓Mir.fo_b20, ↓Mir.p_b_own21, ↓Mir.p_b_sh21, ↓Mir.f_b21, ↓Mir.fo_b21, ↓Mir.p_b_own22, ↓Mir.p_b_sh22, ↓Mir.f_b22, ↓Mir.fo_b22, ↓Mir.p_b_own23, ↓Mir.p_b_sh23, ↓Mir.f_b23, ↓Mir.fo_b23, ↓Mir.p_b_own24, ↓Mir.p_b_sh24, ↓Mir.f_b24, ↓Mir.fo_b24, ↓Mir.p_b_own25, ↓Mir.p_b_sh25, ↓Mir.f_b25, ↓Mir.fo_b25, ↓Mir.pv_sh, ↓Mir.pv_own, ↓Mir.bt_name0, ↓Mir.sa_0, ↓Mir.bt_name1, ↓Mir.sa_1, ↓Mir.bt_name2, ↓Mir.sa_2, ↓Mir.bt_name3, ↓Mir.sa_3, ↓Mir.bt_name4, ↓Mir.sa_4, ↓Mir.bt_name5, ↓Mir.sa_5, ↓Mir.bt_name6, ↓Mir.sa_6, ↓Mir.bt_name7, ↓Mir.sa_7, ↓Mir.bt_name8, ↓Mir.sa_8, ↓Mir.bt_name9, ↓Mir.sa_9, ↓Mir.bt_name10, ↓Mir.sa_10, ↓Mir.bt_name11, ↓Mir.sa_11, ↓Mir.bt_name12, ↓Mir.sa_12, ↓Mir.bt_name13, ↓Mir.sa_13, ↓Mir.bt_name14, ↓Mir.sa_14, ↓Mir.bt_name15, ↓Mir.sa_15, ↓Mir.bt_name16, ↓Mir.sa_16, ↓Mir.bt_name17, ↓Mir.sa_17, ↓Mir.bt_name18, ↓Mir.sa_18, ↓Mir.bt_name19, ↓Mir.sa_19, ↓Mir.bt_name20, ↓Mir.sa_20, ↓Mir.bt_name21, ↓Mir.sa_21, ↓Mir.bt_name22, ↓Mir.sa_22, ↓Mir.bt_name23, ↓Mir.sa_23, ↓Mir.bt_name24, ↓Mir.sa_24, ↓Mir.bt_name25, ↓Mir.sa_25, ↓Mir.sa_end, ↓Mir.bt_tup, ↓Mir.b_Add, ↓Mir.b_Sub, ↓Mir.b_BitAnd, ↓Mir.b_BitOr, ↓Mir.b_BitXor, ↓Mir.b_Mult, ↓Mir.b_Mod, ↓Mir.b_FloorDiv, ↓Mir.b_Pow, ↓Mir.b_LShift, ↓Mir.b_RShift, ↓Mir.b_Add_str, ↓Mir.b_Add_lst, ↓Mir.b_Add_tup, ↓Mir.c_Lt, ↓Mir.c_LtE, ↓Mir.c_Gt, ↓Mir.c_GtE, ↓Mir.c_Eq, ↓Mir.c_NotEq, ↓Mir.c_Eq_str, ↓Mir.c_NotEq_str, ↓Mir.c_Eq_bl, ↓Mir.c_NotEq_bl, ↓Mir.c_Eq_int_str, ↓Mir.c_NotEq_int_str, ↓Mir.c_Eq_str_int, ↓Mir.c_NotEq_str_int, ↓Mir.c_Eq_bl_str, ↓Mir.c_NotEq_bl_str, ↓Mir.c_Eq_str_bl, ↓Mir.c_NotEq_str_bl, ↓Mir.c_Eq_int_non, ↓Mir.c_NotEq_int_non, ↓Mir.c_Eq_str_non, ↓Mir.c_NotEq_str_non, ↓Mir.c_Eq_bl_non, ↓Mir.c_NotEq_bl_non, ↓Mir.c_Is_int, ↓Mir.c_IsNot_int, ↓Mir.c_Is_str, ↓Mir.c_IsNot_str, ↓Mir.c_Is_bl, ↓Mir.c_IsNot_bl, ↓Mir.c_Is_tup, ↓Mir.c_IsNot_tup, ↓Mir.c_Is_lst, ↓Mir.c_IsNot_lst, ↓Mir.c_Is_non, ↓Mir.c_IsNot_non, ↓Mir.c_In, ↓Mir.c_NotIn, ↓Mir.tr_bl, ↓Mir.tr_int, ↓Mir.tr_lst, ↓Mir.tr_tup, ↓Mir.tr_non, ↓Mir.x_lst, ↓Mir.x_tup, ↓Mir.at_0, ↓Mir.at_1, ↓Mir.at_2, ↓Mir.at_3, ↓Mir.at_4, ↓Mir.at_5, ↓Mir.at_6, ↓Mir.at_7, ↓Mir.sl_lst, ↓Mir.sl_tup, ↓Mir.bl_len_lst, ↓Mir.bl_len_tup, ↓Mir.bl_abs, ↓Mir.bl_max, ↓Mir.bl_min, ↓Mir.bl_int_int, ↓Mir.bl_int_bl, ↓Mir.bl_list_lst, ↓Mir.bl_list_tup, ↓Mir.bl_tuple_lst, ↓Mir.bl_tuple_tup, ↓Mir.bl_sum, ↓Mir.bl_all, ↓Mir.bl_any, ↓Mir.bl_sorted, ↓Mir.as_ints, ↓Mir.as_bls, ↓Mir.as_strs, ↓Mir.is_non_tuple, ↓Mir.is_non_list, ↓Mir.is_non_bool, ↓Mir.is_non_int, ↓Mir.is_non_str, ↓Mir.is_bl_tuple, ↓Mir.is_bl_list, ↓Mir.is_bl_bool, ↓Mir.is_bl_int, ↓Mir.is_bl_str, ↓Mir.is_int_tuple, ↓Mir.is_int_list, ↓Mir.is_int_bool, ↓Mir.is_int_int, ↓Mir.is_int_str, ↓Mir.is_str_tuple, ↓Mir.is_str_list, ↓Mir.is_str_bool, ↓Mir.is_str_int, ↓Mir.is_str_str, ↓Mir.is_lst_tuple, ↓Mir.is_lst_list, ↓Mir.is_lst_bool, ↓Mir.is_lst_int, ↓Mir.is_lst_str, ↓Mir.is_tup_tuple, ↓Mir.is_tup_list, ↓Mir.is_tup_bool, ↓Mir.is_tup_int, ↓Mir.is_tup_str, ↓Mir.it_lst, ↓Mir.it_tup, ↓Mir.z_lst, ↓Mir.z_tup, ↓Mir.s_nil, ↓Mir.s_set, ↓Mir.s_expr, ↓Mir.s_ret, ↓Mir.s_retN, ↓Mir.s_pass, ↓Mir.s_brk, ↓Mir.ifS_t, ↓Mir.ifS_f, ↓Mir.s_if, ↓Mir.s_for, ↓Mir.s_while, ↓Mir.s_app0, ↓Mir.appE_0, ↓Mir.s_ext0, ↓Mir.extE_0, ↓Mir.setE_0, ↓Mir.s_app1, ↓Mir.appE_1, ↓Mir.s_ext1, ↓Mir.extE_1, ↓Mir.setE_1, ↓Mir.s_app2, ↓Mir.appE_2, ↓Mir.s_ext2, ↓Mir.extE_2, ↓Mir.setE_2, ↓Mir.s_app3, ↓Mir.appE_3, ↓Mir.s_ext3, ↓Mir.extE_3, ↓Mir.setE_3, ↓Mir.s_app4, ↓Mir.appE_4, ↓Mir.s_ext4, ↓Mir.extE_4, ↓Mir.setE_4, ↓Mir.s_app5, ↓Mir.appE_5, ↓Mir.s_ext5, ↓Mir.extE_5, ↓Mir.setE_5, ↓Mir.s_app6, ↓Mir.appE_6, ↓Mir.s_ext6, ↓Mir.extE_6, ↓Mir.setE_6, ↓Mir.s_app7, ↓Mir.appE_7, ↓Mir.s_ext7, ↓Mir.extE_7, ↓Mir.setE_7, ↓Mir.s_app8, ↓Mir.appE_8, ↓Mir.s_ext8, ↓Mir.extE_8, ↓Mir.setE_8, ↓Mir.s_app9, ↓Mir.appE_9, ↓Mir.s_ext9, ↓Mir.extE_9, ↓Mir.setE_9, ↓Mir.s_app10, ↓Mir.appE_10, ↓Mir.s_ext10, ↓Mir.extE_10, ↓Mir.setE_10, ↓Mir.s_app11, ↓Mir.appE_11, ↓Mir.s_ext11, ↓Mir.extE_11, ↓Mir.setE_11, ↓Mir.s_app12, ↓Mir.appE_12, ↓Mir.s_ext12, ↓Mir.extE_12, ↓Mir.setE_12, ↓Mir.s_app13, ↓Mir.appE_13, ↓Mir.s_ext13, ↓Mir.extE_13, ↓Mir.setE_13, ↓Mir.s_app14, ↓Mir.appE_14, ↓Mir.s_ext14, ↓Mir.extE_14, ↓Mir.setE_14, ↓Mir.s_app15, ↓Mir.appE_15, ↓Mir.s_ext15, ↓Mir.extE_15, ↓Mir.setE_15, ↓Mir.s_app16, ↓Mir.appE_16, ↓Mir.s_ext16, ↓Mir.extE_16, ↓Mir.setE_16, ↓Mir.s_app17, ↓Mir.appE_17, ↓Mir.s_ext17, ↓Mir.extE_17, ↓Mir.setE_17, ↓Mir.s_app18, ↓Mir.appE_18, ↓Mir.s_ext18, ↓Mir.extE_18, ↓Mir.setE_18, ↓Mir.s_app19, ↓Mir.appE_19, ↓Mir.s_ext19, ↓Mir.extE_19, ↓Mir.setE_19, ↓Mir.s_app20, ↓Mir.appE_20, ↓Mir.s_ext20, ↓Mir.extE_20, ↓Mir.setE_20, ↓Mir.s_app21, ↓Mir.appE_21, ↓Mir.s_ext21, ↓Mir.extE_21, ↓Mir.setE_21, ↓Mir.s_app22, ↓Mir.appE_22, ↓Mir.s_ext22, ↓Mir.extE_22, ↓Mir.setE_22, ↓Mir.s_app23, ↓Mir.appE_23, ↓Mir.s_ext23, ↓Mir.extE_23, ↓Mir.setE_23, ↓Mir.s_app24, ↓Mir.appE_24, ↓Mir.s_ext24, ↓Mir.extE_24, ↓Mir.setE_24, ↓Mir.s_app25, ↓Mir.appE_25, ↓Mir.s_ext25, ↓Mir.extE_25, ↓Mir.setE_25, ↓Mir.ifS_not, ↓Mir.ifS_pos, ↓Mir.ifS_neg, ↓Mir.ifB_not, ↓Mir.ifB_pos, ↓Mir.ifB_neg, ↓Mir.turnC_eq, ↓Mir.shNs_nil, ↓Mir.shNs_cons, ↓Mir.shN1_ok, Mir.shN1_none, Mir.shN1_sh, Mir.wipe_nil, Mir.wipe_cons, Mir.back_nil, Mir.back_cons, List.set_cons_zero, List.set_cons_succ, List.getD_cons_zero, List.getD_cons_succ, List.map_cons, List.map_nil, ↓Mir.limK_le, ↓Mir.inRK_ok, ↓Mir.okK_ok, ↓Mir.appK_ok, ↓Mir.extK_ok, ↓Mir.finK_ret, ↓Mir.finK_next, ↓Mir.finK_for, ↓Mir.finK_while, ↓Mir.finK_comp, ↓Mir.finK_ifB, ↓Mir.finK_ifS, Mir.app_nil, Mir.app_cons, Mir.flK_next, Mir.flK_ret, Mir.flK_brk, Option.bind_none, decide_true, decide_false, Bool.not_true, Bool.not_false, Mir.pv_sh, Mir.pv_own, List.cons_append, List.nil_append, Mir.okK_ok, Int.reducePow, Int.reduceToNat, Int.reduceMul, Int.reduceAdd, Int.reduceSub, Int.reduceNeg, Nat.reducePow, Nat.reduceMul, Nat.reduceAdd, Nat.reduceSub, Int.one_mul, Int.zero_add, Int.zero_mul, ↓Mir.atI_nat, Int.toNat_natCast])
theorem behind_ex {B : List Bx} {R : List Rw} {bells m n : Nat} {L : List Fr} {cs : List Int} (hn : 4 ≤ n) (hB : goodB B) (hR : goodR B 9 bells R) (hS : okS B R m L cs) (hm : m ≤ 900) :
    ∃ v, fns P n 21 [progpv B R, .tup [.tup (L.map fun f => PV.tup [.int (f.row : Int), .int (f.place : Int), .int (f.turn : Int), .tup (f.hand.map PV.int)]), .tup (cs.map PV.int)]] = some (.sh v) ∧ (v = .non ∨ ∃ L' cs', okS B R m L' cs' ∧ v = .tup [.tup (L'.map fun f => PV.tup [.int (f.row : Int), .int (f.place : Int), .int (f.turn : Int), .tup (f.hand.map PV.int)]), .tup (cs'.map PV.int)]) := by
  obtain ⟨n, rfl⟩ : ∃ j, n = j + 1 := ⟨n - 1, by omega⟩
  have L0 := hS.1
  have Lm := hS.2.1
  obtain ⟨f1, f2, f3⟩ := hS.2.2.2.1 _ (getD_mem (i := L.length - 1) (d := f0r) (by omega))
  have hcl : (cutP (L.map fun f => PV.tup [.int (f.row : Int), .int (f.place : Int), .int (f.turn : Int), .tup (f.hand.map PV.int)]) none (some (-1))).length ≤ 1000 := by
    rw [cut_init, List.length_map, List.length_take]; omega
  rw [r21, b21]
  by_cases hp : (L.getD (L.length - 1) f0r).place = (R.getD (L.getD (L.length - 1) f0r).row r0w).2.2.length
  · walk_at "s8"
    exact ⟨_, rfl, .inl rfl⟩
  have hp' : (L.getD (L.length - 1) f0r).place < (R.getD (L.getD (L.length - 1) f0r).row r0w).2.2.length := by omega
  obtain ⟨g1, g2, g3⟩ := f3 hp'
  have hd : goodD B 9 ((R.getD (L.getD (L.length - 1) f0r).row r0w).2.2.getD (L.getD (L.length - 1) f0r).place q0).1 := ((hR _ (getD_mem f1)).1 _ (getD_mem hp')).1
  have ff := fit_deed hB hd (by decide)
  rw [drop_next g1] at g3
  obtain ⟨ok, fit⟩ := g3
  rw [← hS.2.2.2.2] at ok
  have hh : (L.getD (L.length - 1) f0r).hand.length ≤ 1000 := by omega
  have dl := done_len cs (L.getD (L.length - 1) f0r).hand ((turnsOf B ((R.getD (L.getD (L.length - 1) f0r).row r0w).2.2.getD (L.getD (L.length - 1) f0r).place q0).1).getD (L.getD (L.length - 1) f0r).turn .rest)
  have leaf1 : ∀ p', p' ≤ (R.getD (L.getD (L.length - 1) f0r).row r0w).2.2.length → okF B R ⟨(L.getD (L.length - 1) f0r).row, p', 0, []⟩ := fun p' h => ⟨f1, ⟨h, Nat.zero_le _⟩, fun h' => by
    have hd' : goodD B 9 ((R.getD (L.getD (L.length - 1) f0r).row r0w).2.2.getD p' q0).1 := ((hR _ (getD_mem f1)).1 _ (getD_mem h')).1
    have ff' := fit_deed hB hd' (by decide)
    exact ⟨ff'.2.1, Nat.le_refl _, ff'.1⟩⟩
  have leafU : (L.getD (L.length - 1) f0r).turn + 1 < (turnsOf B ((R.getD (L.getD (L.length - 1) f0r).row r0w).2.2.getD (L.getD (L.length - 1) f0r).place q0).1).length → okF B R ⟨(L.getD (L.length - 1) f0r).row, (L.getD (L.length - 1) f0r).place, (L.getD (L.length - 1) f0r).turn + 1, (done cs (L.getD (L.length - 1) f0r).hand ((turnsOf B ((R.getD (L.getD (L.length - 1) f0r).row r0w).2.2.getD (L.getD (L.length - 1) f0r).place q0).1).getD (L.getD (L.length - 1) f0r).turn .rest)).2⟩ := fun u => ⟨f1, ⟨f2.1, by show (done cs (L.getD (L.length - 1) f0r).hand ((turnsOf B ((R.getD (L.getD (L.length - 1) f0r).row r0w).2.2.getD (L.getD (L.length - 1) f0r).place q0).1).getD (L.getD (L.length - 1) f0r).turn .rest)).2.length ≤ 2000; rw [dl.2]; split <;> omega⟩, fun _ => ⟨u, by show (done cs (L.getD (L.length - 1) f0r).hand ((turnsOf B ((R.getD (L.getD (L.length - 1) f0r).row r0w).2.2.getD (L.getD (L.length - 1) f0r).place q0).1).getD (L.getD (L.length - 1) f0r).turn .rest)).2.length ≤ (L.getD (L.length - 1) f0r).turn + 1; rw [dl.2]; split <;> omega, by show Fit _ (done cs (L.getD (L.length - 1) f0r).hand ((turnsOf B ((R.getD (L.getD (L.length - 1) f0r).row r0w).2.2.getD (L.getD (L.length - 1) f0r).place q0).1).getD (L.getD (L.length - 1) f0r).turn .rest)).2.length _; rw [dl.2]; exact fit⟩⟩
  by_cases s : ((turnsOf B ((R.getD (L.getD (L.length - 1) f0r).row r0w).2.2.getD (L.getD (L.length - 1) f0r).place q0).1).getD (L.getD (L.length - 1) f0r).turn .rest).kind = Str.ofString "same"
  · obtain ⟨k1, k2⟩ := same_kind s ok
    by_cases ne : cs.getD ((turnsOf B ((R.getD (L.getD (L.length - 1) f0r).row r0w).2.2.getD (L.getD (L.length - 1) f0r).place q0).1).getD (L.getD (L.length - 1) f0r).turn .rest).spot 0 = (L.getD (L.length - 1) f0r).hand.getD 0 0
    · by_cases u : (L.getD (L.length - 1) f0r).turn + 1 < (turnsOf B ((R.getD (L.getD (L.length - 1) f0r).row r0w).2.2.getD (L.getD (L.length - 1) f0r).place q0).1).length
      · walk_at "s8"
        try rw [ifB_pos ne]
        exact ⟨_, rfl, .inr ⟨L.take (L.length - 1) ++ [⟨(L.getD (L.length - 1) f0r).row, (L.getD (L.length - 1) f0r).place, (L.getD (L.length - 1) f0r).turn + 1, (done cs (L.getD (L.length - 1) f0r).hand ((turnsOf B ((R.getD (L.getD (L.length - 1) f0r).row r0w).2.2.getD (L.getD (L.length - 1) f0r).place q0).1).getD (L.getD (L.length - 1) f0r).turn .rest)).2⟩], (done cs (L.getD (L.length - 1) f0r).hand ((turnsOf B ((R.getD (L.getD (L.length - 1) f0r).row r0w).2.2.getD (L.getD (L.length - 1) f0r).place q0).1).getD (L.getD (L.length - 1) f0r).turn .rest)).1, okS_put hS (leafU u) rfl dl.1, by rw [cut_init, List.map_append]; rfl⟩⟩
      · by_cases w : 0 < (L.getD (L.length - 1) f0r).row
        · by_cases w2 : (L.getD (L.length - 1) f0r).place + 1 = (R.getD (L.getD (L.length - 1) f0r).row r0w).2.2.length
          · walk_at "s8"
            try rw [ifB_pos ne]
            exact ⟨_, rfl, .inr ⟨L.take (L.length - 1), (done cs (L.getD (L.length - 1) f0r).hand ((turnsOf B ((R.getD (L.getD (L.length - 1) f0r).row r0w).2.2.getD (L.getD (L.length - 1) f0r).place q0).1).getD (L.getD (L.length - 1) f0r).turn .rest)).1, okS_pop hS w dl.1, by rw [cut_init]⟩⟩
          · walk_at "s8"
            try rw [ifB_pos ne]
            exact ⟨_, rfl, .inr ⟨L.take (L.length - 1) ++ [⟨(L.getD (L.length - 1) f0r).row, (L.getD (L.length - 1) f0r).place + 1, 0, []⟩], (done cs (L.getD (L.length - 1) f0r).hand ((turnsOf B ((R.getD (L.getD (L.length - 1) f0r).row r0w).2.2.getD (L.getD (L.length - 1) f0r).place q0).1).getD (L.getD (L.length - 1) f0r).turn .rest)).1, okS_put hS (leaf1 _ (by omega)) rfl dl.1, by rw [cut_init, List.map_append]; rfl⟩⟩
        · walk_at "s8"
          try rw [ifB_pos ne]
          exact ⟨_, rfl, .inr ⟨L.take (L.length - 1) ++ [⟨(L.getD (L.length - 1) f0r).row, (L.getD (L.length - 1) f0r).place + 1, 0, []⟩], (done cs (L.getD (L.length - 1) f0r).hand ((turnsOf B ((R.getD (L.getD (L.length - 1) f0r).row r0w).2.2.getD (L.getD (L.length - 1) f0r).place q0).1).getD (L.getD (L.length - 1) f0r).turn .rest)).1, okS_put hS (leaf1 _ (by omega)) rfl dl.1, by rw [cut_init, List.map_append]; rfl⟩⟩
    · walk_at "s8"
      try rw [ifB_neg ne]
      exact ⟨_, rfl, .inr ⟨L.take (L.length - 1) ++ [⟨(L.getD (L.length - 1) f0r).row, (L.getD (L.length - 1) f0r).place, 0, []⟩], (done cs (L.getD (L.length - 1) f0r).hand ((turnsOf B ((R.getD (L.getD (L.length - 1) f0r).row r0w).2.2.getD (L.getD (L.length - 1) f0r).place q0).1).getD (L.getD (L.length - 1) f0r).turn .rest)).1, okS_put hS (leaf1 _ (by omega)) rfl dl.1, by rw [cut_init, List.map_append]; rfl⟩⟩
  · by_cases u : (L.getD (L.length - 1) f0r).turn + 1 < (turnsOf B ((R.getD (L.getD (L.length - 1) f0r).row r0w).2.2.getD (L.getD (L.length - 1) f0r).place q0).1).length
    · walk_at "s8"
      exact ⟨_, rfl, .inr ⟨L.take (L.length - 1) ++ [⟨(L.getD (L.length - 1) f0r).row, (L.getD (L.length - 1) f0r).place, (L.getD (L.length - 1) f0r).turn + 1, (done cs (L.getD (L.length - 1) f0r).hand ((turnsOf B ((R.getD (L.getD (L.length - 1) f0r).row r0w).2.2.getD (L.getD (L.length - 1) f0r).place q0).1).getD (L.getD (L.length - 1) f0r).turn .rest)).2⟩], (done cs (L.getD (L.length - 1) f0r).hand ((turnsOf B ((R.getD (L.getD (L.length - 1) f0r).row r0w).2.2.getD (L.getD (L.length - 1) f0r).place q0).1).getD (L.getD (L.length - 1) f0r).turn .rest)).1, okS_put hS (leafU u) rfl dl.1, by rw [cut_init, List.map_append]; rfl⟩⟩
    · by_cases w : 0 < (L.getD (L.length - 1) f0r).row
      · by_cases w2 : (L.getD (L.length - 1) f0r).place + 1 = (R.getD (L.getD (L.length - 1) f0r).row r0w).2.2.length
        · walk_at "s8"
          exact ⟨_, rfl, .inr ⟨L.take (L.length - 1), (done cs (L.getD (L.length - 1) f0r).hand ((turnsOf B ((R.getD (L.getD (L.length - 1) f0r).row r0w).2.2.getD (L.getD (L.length - 1) f0r).place q0).1).getD (L.getD (L.length - 1) f0r).turn .rest)).1, okS_pop hS w dl.1, by rw [cut_init]⟩⟩
        · walk_at "s8"
          exact ⟨_, rfl, .inr ⟨L.take (L.length - 1) ++ [⟨(L.getD (L.length - 1) f0r).row, (L.getD (L.length - 1) f0r).place + 1, 0, []⟩], (done cs (L.getD (L.length - 1) f0r).hand ((turnsOf B ((R.getD (L.getD (L.length - 1) f0r).row r0w).2.2.getD (L.getD (L.length - 1) f0r).place q0).1).getD (L.getD (L.length - 1) f0r).turn .rest)).1, okS_put hS (leaf1 _ (by omega)) rfl dl.1, by rw [cut_init, List.map_append]; rfl⟩⟩
      · walk_at "s8"
        exact ⟨_, rfl, .inr ⟨L.take (L.length - 1) ++ [⟨(L.getD (L.length - 1) f0r).row, (L.getD (L.length - 1) f0r).place + 1, 0, []⟩], (done cs (L.getD (L.length - 1) f0r).hand ((turnsOf B ((R.getD (L.getD (L.length - 1) f0r).row r0w).2.2.getD (L.getD (L.length - 1) f0r).place q0).1).getD (L.getD (L.length - 1) f0r).turn .rest)).1, okS_put hS (leaf1 _ (by omega)) rfl dl.1, by rw [cut_init, List.map_append]; rfl⟩⟩
theorem okS_come {B : List Bx} {R : List Rw} {bells m : Nat} {L : List Fr} {cs : List Int} {b : Nat} (h : okS B R m L cs) (hB : goodB B) (hR : goodR B 9 bells R) (hb : b < R.length) : okS B R (m + 1) (L ++ [comeF b]) cs := by
  obtain ⟨h1, h2, h3, h4, h5⟩ := h
  refine ⟨by rw [List.length_append]; omega, by rw [List.length_append]; simp only [List.length_cons, List.length_nil]; omega, ?_, fun g hg => ?_, h5⟩
  · rw [List.getD_eq_getElem?_getD, List.getElem?_append_left (by omega), ← List.getD_eq_getElem?_getD]
    exact h3
  · rcases List.mem_append.mp hg with hg | hg
    · exact h4 g hg
    · rw [List.mem_singleton.mp hg]
      refine ⟨hb, ⟨Nat.zero_le _, Nat.zero_le _⟩, fun h' => ?_⟩
      have hd' : goodD B 9 ((R.getD b r0w).2.2.getD 0 q0).1 := ((hR _ (getD_mem hb)).1 _ (getD_mem h')).1
      have ff' := fit_deed hB hd' (by decide)
      exact ⟨ff'.2.1, Nat.le_refl _, ff'.1⟩
theorem okS_mono {B : List Bx} {R : List Rw} {m k : Nat} {L : List Fr} {cs : List Int} (h : okS B R m L cs) (hk : m ≤ k) : okS B R k L cs := ⟨h.1, Nat.le_trans h.2.1 hk, h.2.2⟩
theorem comers_lt {R : List Rw} {L : List Fr} {b : Nat} (h : b ∈ comers R L) : b < R.length := mem_bells (List.mem_filter.mp h).1
theorem comer_at {M : List Nat} {i : Int} {γ : Type} {k : PV → Option γ} (h0 : 0 ≤ i) (h1 : i < M.length) : (atI (M.map fun (b : Nat) => PV.int (b : Int)) i).bind k = k (.int ((M.getD i.toNat 0 : Nat) : Int)) := by
  rw [atI_map (fun (b : Nat) => PV.int (b : Int)) M 0 i h0 h1]; rfl
local macro_rules | `(tactic| walk_at "s9") => `(tactic| simp (maxSteps := 4000000) (disch := first | omega | assumption | ((try simp only [List.length_cons, List.length_nil, List.length_append, List.length_map, List.length_range]); omega) | decide) only [↓comers_k, ↓lcome_k, ↓comer_at, ↓Mir.k_non, ↓Mir.k_bl, ↓Mir.k_int, ↓Mir.k_str, ↓Mir.k_glob, ↓Mir.k_var_sh0, ↓Mir.k_var_own0, ↓Mir.k_var_sh1, ↓Mir.k_var_own1, ↓Mir.k_var_sh2, ↓Mir.k_var_own2, ↓Mir.k_var_sh3, ↓Mir.k_var_own3, ↓Mir.k_var_sh4, ↓Mir.k_var_own4, ↓Mir.k_var_sh5, ↓Mir.k_var_own5, ↓Mir.k_var_sh6, ↓Mir.k_var_own6, ↓Mir.k_var_sh7, ↓Mir.k_var_own7, ↓Mir.k_var_sh8, ↓Mir.k_var_own8, ↓Mir.k_var_sh9, ↓Mir.k_var_own9, ↓Mir.k_var_sh10, ↓Mir.k_var_own10, ↓Mir.k_var_sh11, ↓Mir.k_var_own11, ↓Mir.k_var_sh12, ↓Mir.k_var_own12, ↓Mir.k_var_sh13, ↓Mir.k_var_own13, ↓Mir.k_var_sh14, ↓Mir.k_var_own14, ↓Mir.k_var_sh15, ↓Mir.k_var_own15, ↓Mir.k_var_sh16, ↓Mir.k_var_own16, ↓Mir.k_var_sh17, ↓Mir.k_var_own17, ↓Mir.k_var_sh18, ↓Mir.k_var_own18, ↓Mir.k_var_sh19, ↓Mir.k_var_own19, ↓Mir.k_var_sh20, ↓Mir.k_var_own20, ↓Mir.k_var_sh21, ↓Mir.k_var_own21, ↓Mir.k_var_sh22, ↓Mir.k_var_own22, ↓Mir.k_var_sh23, ↓Mir.k_var_own23, ↓Mir.k_var_sh24, ↓Mir.k_var_own24, ↓Mir.k_var_sh25, ↓Mir.k_var_own25, ↓Mir.k_bin, ↓Mir.k_cmp, ↓Mir.ifB_t, ↓Mir.ifB_f, ↓Mir.k_chain, ↓Mir.boolK_bl, ↓Mir.intK_int, ↓Mir.k_and, ↓Mir.k_or, ↓Mir.k_not, ↓Mir.k_neg, ↓Mir.k_inv, ↓Mir.k_ife, ↓Mir.k_ix, ↓Mir.k_slc, ↓Mir.k_tup, ↓Mir.k_lst, ↓Mir.k_call, ↓Mir.callK_1, ↓Mir.callK_2, ↓Mir.callK_3, ↓Mir.callK_4, ↓Mir.callK_5, ↓Mir.callK_6, ↓Mir.callK_7, ↓Mir.callK_8, ↓Mir.callK_Int, ↓Mir.callK_Bool, ↓Mir.callK_Str, ↓Mir.callK_non, ↓Mir.k_blt, ↓Mir.k_isi, ↓Mir.k_meth, ↓Mir.k_comp, ↓Mir.k_no, ↓Mir.k_some, ↓Mir.k_yes, ↓Mir.k_on, ↓Mir.k_nil, ↓Mir.k_cons, ↓Mir.t_val, ↓Mir.t_cmp, ↓Mir.t_chain, ↓Mir.t_and, ↓Mir.t_or, ↓Mir.t_not, ↓Mir.i_val, ↓Mir.i_range1, ↓Mir.i_range2, ↓Mir.lstK_lst, ↓Mir.i_enum, ↓Mir.seqK_lst, ↓Mir.seqK_tup, ↓Mir.i_rev, ↓Mir.i_zip, ↓Mir.p_sh, ↓Mir.p_own, ↓Mir.ps_nil, ↓Mir.ps_cons, ↓Mir.f_sh, ↓Mir.f_own, ↓Mir.fs_nil, ↓Mir.fs_cons, ↓Mir.fo_t, ↓Mir.p_b_own0, ↓Mir.p_b_sh0, ↓Mir.f_b0, ↓Mir.fo_b0, ↓Mir.p_b_own1, ↓Mir.p_b_sh1, ↓Mir.f_b1, ↓Mir.fo_b1, ↓Mir.p_b_own2, ↓Mir.p_b_sh2, ↓Mir.f_b2, ↓Mir.fo_b2, ↓Mir.p_b_own3, ↓Mir.p_b_sh3, ↓Mir.f_b3, ↓Mir.fo_b3, ↓Mir.p_b_own4, ↓Mir.p_b_sh4, ↓Mir.f_b4, ↓Mir.fo_b4, ↓Mir.p_b_own5, ↓Mir.p_b_sh5, ↓Mir.f_b5, ↓Mir.fo_b5, ↓Mir.p_b_own6, ↓Mir.p_b_sh6, ↓Mir.f_b6, ↓Mir.fo_b6, ↓Mir.p_b_own7, ↓Mir.p_b_sh7, ↓Mir.f_b7, ↓Mir.fo_b7, ↓Mir.p_b_own8, ↓Mir.p_b_sh8, ↓Mir.f_b8, ↓Mir.fo_b8, ↓Mir.p_b_own9, ↓Mir.p_b_sh9, ↓Mir.f_b9, ↓Mir.fo_b9, ↓Mir.p_b_own10, ↓Mir.p_b_sh10, ↓Mir.f_b10, ↓Mir.fo_b10, ↓Mir.p_b_own11, ↓Mir.p_b_sh11, ↓Mir.f_b11, ↓Mir.fo_b11, ↓Mir.p_b_own12, ↓Mir.p_b_sh12, ↓Mir.f_b12, ↓Mir.fo_b12, ↓Mir.p_b_own13, ↓Mir.p_b_sh13, ↓Mir.f_b13, ↓Mir.fo_b13, ↓Mir.p_b_own14, ↓Mir.p_b_sh14, ↓Mir.f_b14, ↓Mir.fo_b14, ↓Mir.p_b_own15, ↓Mir.p_b_sh15, ↓Mir.f_b15, ↓Mir.fo_b15, ↓Mir.p_b_own16, ↓Mir.p_b_sh16, ↓Mir.f_b16, ↓Mir.fo_b16, ↓Mir.p_b_own17, ↓Mir.p_b_sh17, ↓Mir.f_b17, ↓Mir.fo_b17, ↓Mir.p_b_own18, ↓Mir.p_b_sh18, ↓Mir.f_b18, ↓Mir.fo_b18, ↓Mir.p_b_own19, ↓Mir.p_b_sh19, ↓Mir.f_b19, ↓Mir.fo_b19, ↓Mir.p_b_own20, ↓Mir.p_b_sh20, ↓Mir.f_b20, ↓Mir.fo_b20, ↓Mir.p_b_own21, ↓Mir.p_b_sh21, ↓Mir.f_b21, ↓Mir.fo_b21, ↓Mir.p_b_own22, ↓Mir.p_b_sh22, ↓Mir.f_b22, ↓Mir.fo_b22, ↓Mir.p_b_own23, ↓Mir.p_b_sh23, ↓Mir.f_b23, ↓Mir.fo_b23, ↓Mir.p_b_own24, ↓Mir.p_b_sh24, ↓Mir.f_b24, ↓Mir.fo_b24, ↓Mir.p_b_own25, ↓Mir.p_b_sh25, ↓Mir.f_b25, ↓Mir.fo_b25, ↓Mir.pv_sh, ↓Mir.pv_own, ↓Mir.bt_name0, ↓Mir.sa_0, ↓Mir.bt_name1, ↓Mir.sa_1, ↓Mir.bt_name2, ↓Mir.sa_2, ↓Mir.bt_name3, ↓Mir.sa_3, ↓Mir.bt_name4, ↓Mir.sa_4, ↓Mir.bt_name5, ↓Mir.sa_5, ↓Mir.bt_name6, ↓Mir.sa_6, ↓Mir.bt_name7, ↓Mir.sa_7, ↓Mir.bt_name8, ↓Mir.sa_8, ↓Mir.bt_name9, ↓Mir.sa_9, ↓Mir.bt_name10, ↓Mir.sa_10, ↓Mir.bt_name11, ↓Mir.sa_11, ↓Mir.bt_name12, ↓Mir.sa_12, ↓Mir.bt_name13, ↓Mir.sa_13, ↓Mir.bt_name14, ↓Mir.sa_14, ↓Mir.bt_name15, ↓Mir.sa_15, ↓Mir.bt_name16, ↓Mir.sa_16, ↓Mir.bt_name17, ↓Mir.sa_17, ↓Mir.bt_name18, ↓Mir.sa_18, ↓Mir.bt_name19, ↓Mir.sa_19, ↓Mir.bt_name20, ↓Mir.sa_20, ↓Mir.bt_name21, ↓Mir.sa_21, ↓Mir.bt_name22, ↓Mir.sa_22, ↓Mir.bt_name23, ↓Mir.sa_23, ↓Mir.bt_name24, ↓Mir.sa_24, ↓Mir.bt_name25, ↓Mir.sa_25, ↓Mir.sa_end, ↓Mir.bt_tup, ↓Mir.b_Add, ↓Mir.b_Sub, ↓Mir.b_BitAnd, ↓Mir.b_BitOr, ↓Mir.b_BitXor, ↓Mir.b_Mult, ↓Mir.b_Mod, ↓Mir.b_FloorDiv, ↓Mir.b_Pow, ↓Mir.b_LShift, ↓Mir.b_RShift, ↓Mir.b_Add_str, ↓Mir.b_Add_lst, ↓Mir.b_Add_tup, ↓Mir.c_Lt, ↓Mir.c_LtE, ↓Mir.c_Gt, ↓Mir.c_GtE, ↓Mir.c_Eq, ↓Mir.c_NotEq, ↓Mir.c_Eq_str, ↓Mir.c_NotEq_str, ↓Mir.c_Eq_bl, ↓Mir.c_NotEq_bl, ↓Mir.c_Eq_int_str, ↓Mir.c_NotEq_int_str, ↓Mir.c_Eq_str_int, ↓Mir.c_NotEq_str_int, ↓Mir.c_Eq_bl_str, ↓Mir.c_NotEq_bl_str, ↓Mir.c_Eq_str_bl, ↓Mir.c_NotEq_str_bl, ↓Mir.c_Eq_int_non, ↓Mir.c_NotEq_int_non, ↓Mir.c_Eq_str_non, ↓Mir.c_NotEq_str_non, ↓Mir.c_Eq_bl_non, ↓Mir.c_NotEq_bl_non, ↓Mir.c_Is_int, ↓Mir.c_IsNot_int, ↓Mir.c_Is_str, ↓Mir.c_IsNot_str, ↓Mir.c_Is_bl, ↓Mir.c_IsNot_bl, ↓Mir.c_Is_tup, ↓Mir.c_IsNot_tup, ↓Mir.c_Is_lst, ↓Mir.c_IsNot_lst, ↓Mir.c_Is_non, ↓Mir.c_IsNot_non, ↓Mir.c_In, ↓Mir.c_NotIn, ↓Mir.tr_bl, ↓Mir.tr_int, ↓Mir.tr_lst, ↓Mir.tr_tup, ↓Mir.tr_non, ↓Mir.x_lst, ↓Mir.x_tup, ↓Mir.at_0, ↓Mir.at_1, ↓Mir.at_2, ↓Mir.at_3, ↓Mir.at_4, ↓Mir.at_5, ↓Mir.at_6, ↓Mir.at_7, ↓Mir.sl_lst, ↓Mir.sl_tup, ↓Mir.bl_len_lst, ↓Mir.bl_len_tup, ↓Mir.bl_abs, ↓Mir.bl_max, ↓Mir.bl_min, ↓Mir.bl_int_int, ↓Mir.bl_int_bl, ↓Mir.bl_list_lst, ↓Mir.bl_list_tup, ↓Mir.bl_tuple_lst, ↓Mir.bl_tuple_tup, ↓Mir.bl_sum, ↓Mir.bl_all, ↓Mir.bl_any, ↓Mir.bl_sorted, ↓Mir.as_ints, ↓Mir.as_bls, ↓Mir.as_strs, ↓Mir.is_non_tuple, ↓Mir.is_non_list, ↓Mir.is_non_bool, ↓Mir.is_non_int, ↓Mir.is_non_str, ↓Mir.is_bl_tuple, ↓Mir.is_bl_list, ↓Mir.is_bl_bool, ↓Mir.is_bl_int, ↓Mir.is_bl_str, ↓Mir.is_int_tuple, ↓Mir.is_int_list, ↓Mir.is_int_bool, ↓Mir.is_int_int, ↓Mir.is_int_str, ↓Mir.is_str_tuple, ↓Mir.is_str_list, ↓Mir.is_str_bool, ↓Mir.is_str_int, ↓Mir.is_str_str, ↓Mir.is_lst_tuple, ↓Mir.is_lst_list, ↓Mir.is_lst_bool, ↓Mir.is_lst_int, ↓Mir.is_lst_str, ↓Mir.is_tup_tuple, ↓Mir.is_tup_list, ↓Mir.is_tup_bool, ↓Mir.is_tup_int, ↓Mir.is_tup_str, ↓Mir.it_lst, ↓Mir.it_tup, ↓Mir.z_lst, ↓Mir.z_tup, ↓Mir.s_nil, ↓Mir.s_set, ↓Mir.s_expr, ↓Mir.s_ret, ↓Mir.s_retN, ↓Mir.s_pass, ↓Mir.s_brk, ↓Mir.ifS_t, ↓Mir.ifS_f, ↓Mir.s_if, ↓Mir.s_for, ↓Mir.s_while, ↓Mir.s_app0, ↓Mir.appE_0, ↓Mir.s_ext0, ↓Mir.extE_0, ↓Mir.setE_0, ↓Mir.s_app1, ↓Mir.appE_1, ↓Mir.s_ext1, ↓Mir.extE_1, ↓Mir.setE_1, ↓Mir.s_app2, ↓Mir.appE_2, ↓Mir.s_ext2, ↓Mir.extE_2, ↓Mir.setE_2, ↓Mir.s_app3, ↓Mir.appE_3, ↓Mir.s_ext3, ↓Mir.extE_3, ↓Mir.setE_3, ↓Mir.s_app4, ↓Mir.appE_4, ↓Mir.s_ext4, ↓Mir.extE_4, ↓Mir.setE_4, ↓Mir.s_app5, ↓Mir.appE_5, ↓Mir.s_ext5, ↓Mir.extE_5, ↓Mir.setE_5, ↓Mir.s_app6, ↓Mir.appE_6, ↓Mir.s_ext6, ↓Mir.extE_6, ↓Mir.setE_6, ↓Mir.s_app7, ↓Mir.appE_7, ↓Mir.s_ext7, ↓Mir.extE_7, ↓Mir.setE_7, ↓Mir.s_app8, ↓Mir.appE_8, ↓Mir.s_ext8, ↓Mir.extE_8, ↓Mir.setE_8, ↓Mir.s_app9, ↓Mir.appE_9, ↓Mir.s_ext9, ↓Mir.extE_9, ↓Mir.setE_9, ↓Mir.s_app10, ↓Mir.appE_10, ↓Mir.s_ext10, ↓Mir.extE_10, ↓Mir.setE_10, ↓Mir.s_app11, ↓Mir.appE_11, ↓Mir.s_ext11, ↓Mir.extE_11, ↓Mir.setE_11, ↓Mir.s_app12, ↓Mir.appE_12, ↓Mir.s_ext12, ↓Mir.extE_12, ↓Mir.setE_12, ↓Mir.s_app13, ↓Mir.appE_13, ↓Mir.s_ext13, ↓Mir.extE_13, ↓Mir.setE_13, ↓Mir.s_app14, ↓Mir.appE_14, ↓Mir.s_ext14, ↓Mir.extE_14, ↓Mir.setE_14, ↓Mir.s_app15, ↓Mir.appE_15, ↓Mir.s_ext15, ↓Mir.extE_15, ↓Mir.setE_15, ↓Mir.s_app16, ↓Mir.appE_16, ↓Mir.s_ext16, ↓Mir.extE_16, ↓Mir.setE_16, ↓Mir.s_app17, ↓Mir.appE_17, ↓Mir.s_ext17, ↓Mir.extE_17, ↓Mir.setE_17, ↓Mir.s_app18, ↓Mir.appE_18, ↓Mir.s_ext18, ↓Mir.extE_18, ↓Mir.setE_18, ↓Mir.s_app19, ↓Mir.appE_19, ↓Mir.s_ext19, ↓Mir.extE_19, ↓Mir.setE_19, ↓Mir.s_app20, ↓Mir.appE_20, ↓Mir.s_ext20, ↓Mir.extE_20, ↓Mir.setE_20, ↓Mir.s_app21, ↓Mir.appE_21, ↓Mir.s_ext21, ↓Mir.extE_21, ↓Mir.setE_21, ↓Mir.s_app22, ↓Mir.appE_22, ↓Mir.s_ext22, ↓Mir.extE_22, ↓Mir.setE_22, ↓Mir.s_app23, ↓Mir.appE_23, ↓Mir.s_ext23, ↓Mir.extE_23, ↓Mir.setE_23, ↓Mir.s_app24, ↓Mir.appE_24, ↓Mir.s_ext24, ↓Mir.extE_24, ↓Mir.setE_24, ↓Mir.s_app25, ↓Mir.appE_25, ↓Mir.s_ext25, ↓Mir.extE_25, ↓Mir.setE_25, ↓Mir.ifS_not, ↓Mir.ifS_pos, ↓Mir.ifS_neg, ↓Mir.ifB_not, ↓Mir.ifB_pos, ↓Mir.ifB_neg, ↓Mir.turnC_eq, ↓Mir.shNs_nil, ↓Mir.shNs_cons, ↓Mir.shN1_ok, Mir.shN1_none, Mir.shN1_sh, Mir.wipe_nil, Mir.wipe_cons, Mir.back_nil, Mir.back_cons, List.set_cons_zero, List.set_cons_succ, List.getD_cons_zero, List.getD_cons_succ, List.map_cons, List.map_nil, ↓Mir.limK_le, ↓Mir.inRK_ok, ↓Mir.okK_ok, ↓Mir.appK_ok, ↓Mir.extK_ok, ↓Mir.finK_ret, ↓Mir.finK_next, ↓Mir.finK_for, ↓Mir.finK_while, ↓Mir.finK_comp, ↓Mir.finK_ifB, ↓Mir.finK_ifS, Mir.app_nil, Mir.app_cons, Mir.flK_next, Mir.flK_ret, Mir.flK_brk, Option.bind_none, decide_true, decide_false, Bool.not_true, Bool.not_false, Mir.pv_sh, Mir.pv_own, List.cons_append, List.nil_append, Mir.okK_ok, Int.reducePow, Int.reduceToNat, Int.reduceMul, Int.reduceAdd, Int.reduceSub, Int.reduceNeg, Nat.reducePow, Nat.reduceMul, Nat.reduceAdd, Nat.reduceSub, Int.one_mul, Int.zero_add, Int.zero_mul, ↓Mir.atI_nat, Int.toNat_natCast])
theorem next_ex {B : List Bx} {R : List Rw} {bells m n : Nat} {L : List Fr} {cs : List Int} {cell : Int} (hn : 6 ≤ n) (hB : goodB B) (hR : goodR B 9 bells R) (hS : okS B R m L cs) (hm : m ≤ 800) (hR7 : R.length ≤ 7) (hR1 : 1 ≤ R.length) :
    ∃ L' cs', okS B R (m + 1) L' cs' ∧ fns P n 22 [progpv B R, .tup [.tup (L.map fun f => PV.tup [.int (f.row : Int), .int (f.place : Int), .int (f.turn : Int), .tup (f.hand.map PV.int)]), .tup (cs.map PV.int)], .int cell] = some (.sh (.tup [.tup (L'.map fun f => PV.tup [.int (f.row : Int), .int (f.place : Int), .int (f.turn : Int), .tup (f.hand.map PV.int)]), .tup (cs'.map PV.int)])) := by
  obtain ⟨n, rfl⟩ : ∃ j, n = j + 1 := ⟨n - 1, by omega⟩
  have hg := okS_goodF hS (by omega)
  have hl : L.length ≤ 1000 := by have := hS.2.1; omega
  obtain ⟨v, hv, hv2⟩ := behind_ex (n := n) (by omega) hB hR hS (by omega)
  have cl : ∀ i, i < (comers R L).length → (comers R L).getD i 0 < R.length := fun i hi => comers_lt (getD_mem hi)
  rw [r22, b22]
  by_cases e : 0 < (comers R L).length
  · have i0 := Int.fmod_nonneg_of_pos (cell.fdiv 3) (b := ((comers R L).length : Int)) (by omega)
    have i1 := Int.fmod_lt_of_pos (cell.fdiv 3) (b := ((comers R L).length : Int)) (by omega)
    by_cases c : cell.fmod 3 = 0
    · walk_at "s9"
      simp only [List.length_map]
      exact ⟨_, cs, okS_come hS hB hR (cl ((cell.fdiv 3).fmod ((comers R L).length : Int)).toNat (by omega)), rfl⟩
    · walk_at "s9"
      rw [hv, Option.bind_some]
      rcases hv2 with rfl | ⟨L', cs', h', rfl⟩
      · walk_at "s9"
        simp only [List.length_map]
        exact ⟨_, cs, okS_come hS hB hR (cl ((cell.fdiv 3).fmod ((comers R L).length : Int)).toNat (by omega)), rfl⟩
      · walk_at "s9"
        exact ⟨L', cs', okS_mono h' (by omega), rfl⟩
  · by_cases c : cell.fmod 3 = 0
    · walk_at "s9"
      rw [hv, Option.bind_some]
      rcases hv2 with rfl | ⟨L', cs', h', rfl⟩
      · walk_at "s9"
        exact ⟨L, cs, okS_mono hS (by omega), rfl⟩
      · walk_at "s9"
        exact ⟨L', cs', okS_mono h' (by omega), rfl⟩
    · walk_at "s9"
      rw [hv, Option.bind_some]
      rcases hv2 with rfl | ⟨L', cs', h', rfl⟩
      · walk_at "s9"
        exact ⟨L, cs, okS_mono hS (by omega), rfl⟩
      · walk_at "s9"
        exact ⟨L', cs', okS_mono h' (by omega), rfl⟩
theorem state_ok {B : List Bx} {R : List Rw} {m : Nat} {L : List Fr} {cs : List Int} (h : okS B R m L cs) (hB : goodB B) (hm : m ≤ 1000) (d : Nat) : okD (d + 4) (.tup [.tup (L.map fun f => PV.tup [.int (f.row : Int), .int (f.place : Int), .int (f.turn : Int), .tup (f.hand.map PV.int)]), .tup (cs.map PV.int)]) := by
  have hc : cs.length ≤ 16 := by
    rw [h.2.2.2.2]
    have := allS_len B hB B.length (Nat.le_refl _)
    have := hB.1
    unfold off; omega
  refine ⟨Nat.le_of_ble_eq_true rfl, fun y hy => ?_⟩
  simp only [List.mem_cons, List.not_mem_nil, or_false] at hy
  rcases hy with rfl | rfl
  · refine ⟨by rw [List.length_map]; have := h.2.1; omega, fun x hx => ?_⟩
    obtain ⟨f, hf, rfl⟩ := List.mem_map.mp hx
    have hh := (h.2.2.2.1 f hf).2.1.2
    refine ⟨Nat.le_of_ble_eq_true rfl, fun z hz => ?_⟩
    simp only [List.mem_cons, List.not_mem_nil, or_false] at hz
    rcases hz with rfl | rfl | rfl | rfl
    · exact okD_int _
    · exact okD_int _
    · exact okD_int _
    · exact okD_tints (by omega)
  · exact okD_tints (by omega)
theorem tints_noBl {d : Nat} {ns : List Int} : noBl (d + 1) (.tup (ns.map PV.int)) := fun x hx => by
  obtain ⟨i, _, rfl⟩ := List.mem_map.mp hx
  exact ⟨(fun b h => by cases h), by cases d <;> trivial⟩
theorem state_noBl {L : List Fr} {cs : List Int} {d : Nat} : noBl (d + 4) (.tup [.tup (L.map fun f => PV.tup [.int (f.row : Int), .int (f.place : Int), .int (f.turn : Int), .tup (f.hand.map PV.int)]), .tup (cs.map PV.int)]) := fun y hy => by
  simp only [List.mem_cons, List.not_mem_nil, or_false] at hy
  rcases hy with rfl | rfl
  · refine ⟨(fun b h => by cases h), fun x hx => ?_⟩
    obtain ⟨f, hf, rfl⟩ := List.mem_map.mp hx
    refine ⟨(fun b h => by cases h), fun z hz => ?_⟩
    simp only [List.mem_cons, List.not_mem_nil, or_false] at hz
    rcases hz with rfl | rfl | rfl | rfl
    · exact ⟨(fun b h => by cases h), trivial⟩
    · exact ⟨(fun b h => by cases h), trivial⟩
    · exact ⟨(fun b h => by cases h), trivial⟩
    · exact ⟨(fun b h => by cases h), tints_noBl⟩
  · exact ⟨(fun b h => by cases h), tints_noBl⟩
theorem nats_ok {M : List Nat} (h : M.length ≤ 16777216) : okD 1 (.lst (M.map fun (b : Nat) => PV.int (b : Int))) := by
  refine ⟨by rw [List.length_map]; exact h, fun x hx => ?_⟩
  obtain ⟨i, _, rfl⟩ := List.mem_map.mp hx
  exact okD_int _
theorem nats_noBl {M : List Nat} : noBl 1 (.lst (M.map fun (b : Nat) => PV.int (b : Int))) := fun x hx => by
  obtain ⟨i, _, rfl⟩ := List.mem_map.mp hx
  exact ⟨(fun b h => by cases h), trivial⟩
local macro_rules | `(tactic| walk_at "law") => `(tactic| simp (maxSteps := 4000000) (disch := first | omega | assumption | ((try simp only [List.length_cons, List.length_nil, List.length_append, List.length_map, List.length_range]); omega) | decide) only [↓mixed_k, ↓lbegin_k, ↓begin_k, ↓comers_k, ↓may_come_k, ↓come_k, ↓lcome_k, ↓Mir.k_non, ↓Mir.k_bl, ↓Mir.k_int, ↓Mir.k_str, ↓Mir.k_glob, ↓Mir.k_var_sh0, ↓Mir.k_var_own0, ↓Mir.k_var_sh1, ↓Mir.k_var_own1, ↓Mir.k_var_sh2, ↓Mir.k_var_own2, ↓Mir.k_var_sh3, ↓Mir.k_var_own3, ↓Mir.k_var_sh4, ↓Mir.k_var_own4, ↓Mir.k_var_sh5, ↓Mir.k_var_own5, ↓Mir.k_var_sh6, ↓Mir.k_var_own6, ↓Mir.k_var_sh7, ↓Mir.k_var_own7, ↓Mir.k_var_sh8, ↓Mir.k_var_own8, ↓Mir.k_var_sh9, ↓Mir.k_var_own9, ↓Mir.k_var_sh10, ↓Mir.k_var_own10, ↓Mir.k_var_sh11, ↓Mir.k_var_own11, ↓Mir.k_var_sh12, ↓Mir.k_var_own12, ↓Mir.k_var_sh13, ↓Mir.k_var_own13, ↓Mir.k_var_sh14, ↓Mir.k_var_own14, ↓Mir.k_var_sh15, ↓Mir.k_var_own15, ↓Mir.k_var_sh16, ↓Mir.k_var_own16, ↓Mir.k_var_sh17, ↓Mir.k_var_own17, ↓Mir.k_var_sh18, ↓Mir.k_var_own18, ↓Mir.k_var_sh19, ↓Mir.k_var_own19, ↓Mir.k_var_sh20, ↓Mir.k_var_own20, ↓Mir.k_var_sh21, ↓Mir.k_var_own21, ↓Mir.k_var_sh22, ↓Mir.k_var_own22, ↓Mir.k_var_sh23, ↓Mir.k_var_own23, ↓Mir.k_var_sh24, ↓Mir.k_var_own24, ↓Mir.k_var_sh25, ↓Mir.k_var_own25, ↓Mir.k_bin, ↓Mir.k_cmp, ↓Mir.ifB_t, ↓Mir.ifB_f, ↓Mir.k_chain, ↓Mir.boolK_bl, ↓Mir.intK_int, ↓Mir.k_and, ↓Mir.k_or, ↓Mir.k_not, ↓Mir.k_neg, ↓Mir.k_inv, ↓Mir.k_ife, ↓Mir.k_ix, ↓Mir.k_slc, ↓Mir.k_tup, ↓Mir.k_lst, ↓Mir.k_call, ↓Mir.callK_1, ↓Mir.callK_2, ↓Mir.callK_3, ↓Mir.callK_4, ↓Mir.callK_5, ↓Mir.callK_6, ↓Mir.callK_7, ↓Mir.callK_8, ↓Mir.callK_Int, ↓Mir.callK_Bool, ↓Mir.callK_Str, ↓Mir.callK_non, ↓Mir.k_blt, ↓Mir.k_isi, ↓Mir.k_meth, ↓Mir.k_comp, ↓Mir.k_no, ↓Mir.k_some, ↓Mir.k_yes, ↓Mir.k_on, ↓Mir.k_nil, ↓Mir.k_cons, ↓Mir.t_val, ↓Mir.t_cmp, ↓Mir.t_chain, ↓Mir.t_and, ↓Mir.t_or, ↓Mir.t_not, ↓Mir.i_val, ↓Mir.i_range1, ↓Mir.i_range2, ↓Mir.lstK_lst, ↓Mir.i_enum, ↓Mir.seqK_lst, ↓Mir.seqK_tup, ↓Mir.i_rev, ↓Mir.i_zip, ↓Mir.p_sh, ↓Mir.p_own, ↓Mir.ps_nil, ↓Mir.ps_cons, ↓Mir.f_sh, ↓Mir.f_own, ↓Mir.fs_nil, ↓Mir.fs_cons, ↓Mir.fo_t, ↓Mir.p_b_own0, ↓Mir.p_b_sh0, ↓Mir.f_b0, ↓Mir.fo_b0, ↓Mir.p_b_own1, ↓Mir.p_b_sh1, ↓Mir.f_b1, ↓Mir.fo_b1, ↓Mir.p_b_own2, ↓Mir.p_b_sh2, ↓Mir.f_b2, ↓Mir.fo_b2, ↓Mir.p_b_own3, ↓Mir.p_b_sh3, ↓Mir.f_b3, ↓Mir.fo_b3, ↓Mir.p_b_own4, ↓Mir.p_b_sh4, ↓Mir.f_b4, ↓Mir.fo_b4, ↓Mir.p_b_own5, ↓Mir.p_b_sh5, ↓Mir.f_b5, ↓Mir.fo_b5, ↓Mir.p_b_own6, ↓Mir.p_b_sh6, ↓Mir.f_b6, ↓Mir.fo_b6, ↓Mir.p_b_own7, ↓Mir.p_b_sh7, ↓Mir.f_b7, ↓Mir.fo_b7, ↓Mir.p_b_own8, ↓Mir.p_b_sh8, ↓Mir.f_b8, ↓Mir.fo_b8, ↓Mir.p_b_own9, ↓Mir.p_b_sh9, ↓Mir.f_b9, ↓Mir.fo_b9, ↓Mir.p_b_own10, ↓Mir.p_b_sh10, ↓Mir.f_b10, ↓Mir.fo_b10, ↓Mir.p_b_own11, ↓Mir.p_b_sh11, ↓Mir.f_b11, ↓Mir.fo_b11, ↓Mir.p_b_own12, ↓Mir.p_b_sh12, ↓Mir.f_b12, ↓Mir.fo_b12, ↓Mir.p_b_own13, ↓Mir.p_b_sh13, ↓Mir.f_b13, ↓Mir.fo_b13, ↓Mir.p_b_own14, ↓Mir.p_b_sh14, ↓Mir.f_b14, ↓Mir.fo_b14, ↓Mir.p_b_own15, ↓Mir.p_b_sh15, ↓Mir.f_b15, ↓Mir.fo_b15, ↓Mir.p_b_own16, ↓Mir.p_b_sh16, ↓Mir.f_b16, ↓Mir.fo_b16, ↓Mir.p_b_own17, ↓Mir.p_b_sh17, ↓Mir.f_b17, ↓Mir.fo_b17, ↓Mir.p_b_own18, ↓Mir.p_b_sh18, ↓Mir.f_b18, ↓Mir.fo_b18, ↓Mir.p_b_own19, ↓Mir.p_b_sh19, ↓Mir.f_b19, ↓Mir.fo_b19, ↓Mir.p_b_own20, ↓Mir.p_b_sh20, ↓Mir.f_b20, ↓Mir.fo_b20, ↓Mir.p_b_own21, ↓Mir.p_b_sh21, ↓Mir.f_b21, ↓Mir.fo_b21, ↓Mir.p_b_own22, ↓Mir.p_b_sh22, ↓Mir.f_b22, ↓Mir.fo_b22, ↓Mir.p_b_own23, ↓Mir.p_b_sh23, ↓Mir.f_b23, ↓Mir.fo_b23, ↓Mir.p_b_own24, ↓Mir.p_b_sh24, ↓Mir.f_b24, ↓Mir.fo_b24, ↓Mir.p_b_own25, ↓Mir.p_b_sh25, ↓Mir.f_b25, ↓Mir.fo_b25, ↓Mir.pv_sh, ↓Mir.pv_own, ↓Mir.bt_name0, ↓Mir.sa_0, ↓Mir.bt_name1, ↓Mir.sa_1, ↓Mir.bt_name2, ↓Mir.sa_2, ↓Mir.bt_name3, ↓Mir.sa_3, ↓Mir.bt_name4, ↓Mir.sa_4, ↓Mir.bt_name5, ↓Mir.sa_5, ↓Mir.bt_name6, ↓Mir.sa_6, ↓Mir.bt_name7, ↓Mir.sa_7, ↓Mir.bt_name8, ↓Mir.sa_8, ↓Mir.bt_name9, ↓Mir.sa_9, ↓Mir.bt_name10, ↓Mir.sa_10, ↓Mir.bt_name11, ↓Mir.sa_11, ↓Mir.bt_name12, ↓Mir.sa_12, ↓Mir.bt_name13, ↓Mir.sa_13, ↓Mir.bt_name14, ↓Mir.sa_14, ↓Mir.bt_name15, ↓Mir.sa_15, ↓Mir.bt_name16, ↓Mir.sa_16, ↓Mir.bt_name17, ↓Mir.sa_17, ↓Mir.bt_name18, ↓Mir.sa_18, ↓Mir.bt_name19, ↓Mir.sa_19, ↓Mir.bt_name20, ↓Mir.sa_20, ↓Mir.bt_name21, ↓Mir.sa_21, ↓Mir.bt_name22, ↓Mir.sa_22, ↓Mir.bt_name23, ↓Mir.sa_23, ↓Mir.bt_name24, ↓Mir.sa_24, ↓Mir.bt_name25, ↓Mir.sa_25, ↓Mir.sa_end, ↓Mir.bt_tup, ↓Mir.b_Add, ↓Mir.b_Sub, ↓Mir.b_BitAnd, ↓Mir.b_BitOr, ↓Mir.b_BitXor, ↓Mir.b_Mult, ↓Mir.b_Mod, ↓Mir.b_FloorDiv, ↓Mir.b_Pow, ↓Mir.b_LShift, ↓Mir.b_RShift, ↓Mir.b_Add_str, ↓Mir.b_Add_lst, ↓Mir.b_Add_tup, ↓Mir.c_Lt, ↓Mir.c_LtE, ↓Mir.c_Gt, ↓Mir.c_GtE, ↓Mir.c_Eq, ↓Mir.c_NotEq, ↓Mir.c_Eq_str, ↓Mir.c_NotEq_str, ↓Mir.c_Eq_bl, ↓Mir.c_NotEq_bl, ↓Mir.c_Eq_int_str, ↓Mir.c_NotEq_int_str, ↓Mir.c_Eq_str_int, ↓Mir.c_NotEq_str_int, ↓Mir.c_Eq_bl_str, ↓Mir.c_NotEq_bl_str, ↓Mir.c_Eq_str_bl, ↓Mir.c_NotEq_str_bl, ↓Mir.c_Eq_int_non, ↓Mir.c_NotEq_int_non, ↓Mir.c_Eq_str_non, ↓Mir.c_NotEq_str_non, ↓Mir.c_Eq_bl_non, ↓Mir.c_NotEq_bl_non, ↓Mir.c_Is_int, ↓Mir.c_IsNot_int, ↓Mir.c_Is_str, ↓Mir.c_IsNot_str, ↓Mir.c_Is_bl, ↓Mir.c_IsNot_bl, ↓Mir.c_Is_tup, ↓Mir.c_IsNot_tup, ↓Mir.c_Is_lst, ↓Mir.c_IsNot_lst, ↓Mir.c_Is_non, ↓Mir.c_IsNot_non, ↓Mir.c_In, ↓Mir.c_NotIn, ↓Mir.tr_bl, ↓Mir.tr_int, ↓Mir.tr_lst, ↓Mir.tr_tup, ↓Mir.tr_non, ↓Mir.x_lst, ↓Mir.x_tup, ↓Mir.at_0, ↓Mir.at_1, ↓Mir.at_2, ↓Mir.at_3, ↓Mir.at_4, ↓Mir.at_5, ↓Mir.at_6, ↓Mir.at_7, ↓Mir.sl_lst, ↓Mir.sl_tup, ↓Mir.bl_len_lst, ↓Mir.bl_len_tup, ↓Mir.bl_abs, ↓Mir.bl_max, ↓Mir.bl_min, ↓Mir.bl_int_int, ↓Mir.bl_int_bl, ↓Mir.bl_list_lst, ↓Mir.bl_list_tup, ↓Mir.bl_tuple_lst, ↓Mir.bl_tuple_tup, ↓Mir.bl_sum, ↓Mir.bl_all, ↓Mir.bl_any, ↓Mir.bl_sorted, ↓Mir.as_ints, ↓Mir.as_bls, ↓Mir.as_strs, ↓Mir.is_non_tuple, ↓Mir.is_non_list, ↓Mir.is_non_bool, ↓Mir.is_non_int, ↓Mir.is_non_str, ↓Mir.is_bl_tuple, ↓Mir.is_bl_list, ↓Mir.is_bl_bool, ↓Mir.is_bl_int, ↓Mir.is_bl_str, ↓Mir.is_int_tuple, ↓Mir.is_int_list, ↓Mir.is_int_bool, ↓Mir.is_int_int, ↓Mir.is_int_str, ↓Mir.is_str_tuple, ↓Mir.is_str_list, ↓Mir.is_str_bool, ↓Mir.is_str_int, ↓Mir.is_str_str, ↓Mir.is_lst_tuple, ↓Mir.is_lst_list, ↓Mir.is_lst_bool, ↓Mir.is_lst_int, ↓Mir.is_lst_str, ↓Mir.is_tup_tuple, ↓Mir.is_tup_list, ↓Mir.is_tup_bool, ↓Mir.is_tup_int, ↓Mir.is_tup_str, ↓Mir.it_lst, ↓Mir.it_tup, ↓Mir.z_lst, ↓Mir.z_tup, ↓Mir.s_nil, ↓Mir.s_set, ↓Mir.s_expr, ↓Mir.s_ret, ↓Mir.s_retN, ↓Mir.s_pass, ↓Mir.s_brk, ↓Mir.ifS_t, ↓Mir.ifS_f, ↓Mir.s_if, ↓Mir.s_for, ↓Mir.s_while, ↓Mir.s_app0, ↓Mir.appE_0, ↓Mir.s_ext0, ↓Mir.extE_0, ↓Mir.setE_0, ↓Mir.s_app1, ↓Mir.appE_1, ↓Mir.s_ext1, ↓Mir.extE_1, ↓Mir.setE_1, ↓Mir.s_app2, ↓Mir.appE_2, ↓Mir.s_ext2, ↓Mir.extE_2, ↓Mir.setE_2, ↓Mir.s_app3, ↓Mir.appE_3, ↓Mir.s_ext3, ↓Mir.extE_3, ↓Mir.setE_3, ↓Mir.s_app4, ↓Mir.appE_4, ↓Mir.s_ext4, ↓Mir.extE_4, ↓Mir.setE_4, ↓Mir.s_app5, ↓Mir.appE_5, ↓Mir.s_ext5, ↓Mir.extE_5, ↓Mir.setE_5, ↓Mir.s_app6, ↓Mir.appE_6, ↓Mir.s_ext6, ↓Mir.extE_6, ↓Mir.setE_6, ↓Mir.s_app7, ↓Mir.appE_7, ↓Mir.s_ext7, ↓Mir.extE_7, ↓Mir.setE_7, ↓Mir.s_app8, ↓Mir.appE_8, ↓Mir.s_ext8, ↓Mir.extE_8, ↓Mir.setE_8, ↓Mir.s_app9, ↓Mir.appE_9, ↓Mir.s_ext9, ↓Mir.extE_9, ↓Mir.setE_9, ↓Mir.s_app10, ↓Mir.appE_10, ↓Mir.s_ext10, ↓Mir.extE_10, ↓Mir.setE_10, ↓Mir.s_app11, ↓Mir.appE_11, ↓Mir.s_ext11, ↓Mir.extE_11, ↓Mir.setE_11, ↓Mir.s_app12, ↓Mir.appE_12, ↓Mir.s_ext12, ↓Mir.extE_12, ↓Mir.setE_12, ↓Mir.s_app13, ↓Mir.appE_13, ↓Mir.s_ext13, ↓Mir.extE_13, ↓Mir.setE_13, ↓Mir.s_app14, ↓Mir.appE_14, ↓Mir.s_ext14, ↓Mir.extE_14, ↓Mir.setE_14, ↓Mir.s_app15, ↓Mir.appE_15, ↓Mir.s_ext15, ↓Mir.extE_15, ↓Mir.setE_15, ↓Mir.s_app16, ↓Mir.appE_16, ↓Mir.s_ext16, ↓Mir.extE_16, ↓Mir.setE_16, ↓Mir.s_app17, ↓Mir.appE_17, ↓Mir.s_ext17, ↓Mir.extE_17, ↓Mir.setE_17, ↓Mir.s_app18, ↓Mir.appE_18, ↓Mir.s_ext18, ↓Mir.extE_18, ↓Mir.setE_18, ↓Mir.s_app19, ↓Mir.appE_19, ↓Mir.s_ext19, ↓Mir.extE_19, ↓Mir.setE_19, ↓Mir.s_app20, ↓Mir.appE_20, ↓Mir.s_ext20, ↓Mir.extE_20, ↓Mir.setE_20, ↓Mir.s_app21, ↓Mir.appE_21, ↓Mir.s_ext21, ↓Mir.extE_21, ↓Mir.setE_21, ↓Mir.s_app22, ↓Mir.appE_22, ↓Mir.s_ext22, ↓Mir.extE_22, ↓Mir.setE_22, ↓Mir.s_app23, ↓Mir.appE_23, ↓Mir.s_ext23, ↓Mir.extE_23, ↓Mir.setE_23, ↓Mir.s_app24, ↓Mir.appE_24, ↓Mir.s_ext24, ↓Mir.extE_24, ↓Mir.setE_24, ↓Mir.s_app25, ↓Mir.appE_25, ↓Mir.s_ext25, ↓Mir.extE_25, ↓Mir.setE_25, ↓Mir.ifS_not, ↓Mir.ifS_pos, ↓Mir.ifS_neg, ↓Mir.ifB_not, ↓Mir.ifB_pos, ↓Mir.ifB_neg, ↓Mir.turnC_eq, ↓Mir.shNs_nil, ↓Mir.shNs_cons, ↓Mir.shN1_ok, Mir.shN1_none, Mir.shN1_sh, Mir.wipe_nil, Mir.wipe_cons, Mir.back_nil, Mir.back_cons, List.set_cons_zero, List.set_cons_succ, List.getD_cons_zero, List.getD_cons_succ, List.map_cons, List.map_nil, ↓Mir.limK_le, ↓Mir.inRK_ok, ↓Mir.okK_ok, ↓Mir.appK_ok, ↓Mir.extK_ok, ↓Mir.finK_ret, ↓Mir.finK_next, ↓Mir.finK_for, ↓Mir.finK_while, ↓Mir.finK_comp, ↓Mir.finK_ifB, ↓Mir.finK_ifS, Mir.app_nil, Mir.app_cons, Mir.flK_next, Mir.flK_ret, Mir.flK_brk, Option.bind_none, decide_true, decide_false, Bool.not_true, Bool.not_false, Mir.pv_sh, Mir.pv_own, List.cons_append, List.nil_append, Mir.okK_ok, Int.reducePow, Int.reduceToNat, Int.reduceMul, Int.reduceAdd, Int.reduceSub, Int.reduceNeg, Nat.reducePow, Nat.reduceMul, Nat.reduceAdd, Nat.reduceSub, Int.one_mul, Int.zero_add, Int.zero_mul, ↓Mir.atI_nat, Int.toNat_natCast])
theorem law_true (ns : List Int) (h : ns.length ≤ 63) : fns P 40 24 [.lst (ns.map PV.int)] = some (.sh (.bl true)) := by
  have m0 := Int.fmod_nonneg_of_pos (mx ns 1) (b := 7) (by decide)
  have m1 := Int.fmod_lt_of_pos (mx ns 1) (b := 7) (by decide)
  obtain ⟨b, hb⟩ : ∃ b : Nat, (mx ns 1).fmod 7 = b := ⟨_, (Int.toNat_of_nonneg m0).symm⟩
  obtain ⟨B, R, hB, hR, hl, he⟩ := program_ex ns 9 b 39 (by decide) (by decide) (by decide) (by omega)
  rw [r24, b24]
  walk_at "law"
  rw [hb, he, Option.bind_some]
  walk_at "law"
  have hS0 : okS B R 1 [comeF 0] (allS B B.length) := by
    refine ⟨Nat.le_refl _, Nat.le_refl _, rfl, fun g hg => ?_, rfl⟩
    rw [List.mem_singleton.mp hg]
    refine ⟨by show 0 < R.length; omega, ⟨Nat.zero_le _, Nat.zero_le _⟩, fun h' => ?_⟩
    have hd' : goodD B 9 ((R.getD 0 r0w).2.2.getD 0 q0).1 := ((hR _ (getD_mem (by show 0 < R.length; omega))).1 _ (getD_mem h')).1
    have ff' := fit_deed hB hd' (by decide)
    exact ⟨ff'.2.1, Nat.le_refl _, ff'.1⟩
  have ok0 : okD 4 (.tup [.tup [.tup [.int 0, .int 0, .int 0, .tup []]], .tup ((allS B B.length).map PV.int)]) := state_ok hS0 hB (by decide) 0
  have nb0 : noBl 4 (.tup [.tup [.tup [.int 0, .int 0, .int 0, .tup []]], .tup ((allS B B.length).map PV.int)]) := state_noBl (L := [comeF 0]) (d := 0)
  rw [alike_k 4 (by decide) rfl ok0 (fun c h => by cases h) nb0]
  obtain ⟨zs, hz, hzl⟩ : ∃ zs : List Int, cutP (ns.map PV.int) none (some 80) = zs.map PV.int ∧ zs.length ≤ 63 := ⟨ns.take (min 80 ns.length), by
    unfold cutP HT.sIx
    rw [List.length_map, List.map_take]; rfl, by rw [List.length_take]; omega⟩
  rw [hz]
  walk_at "law"
  refine for_go (0 :: zs) PV.int (fun pre e => ∃ L cs j3 j4 j5, okS B R (1 + pre.length) L cs ∧ e = [some (.sh (.lst (ns.map PV.int))), some (.sh (progpv B R)), some (.sh (PV.tup [.tup (L.map fun f => PV.tup [.int (f.row : Int), .int (f.place : Int), .int (f.turn : Int), .tup (f.hand.map PV.int)]), .tup (cs.map PV.int)])), j3, j4, j5]) rfl ⟨[comeF 0], allS B B.length, _, _, _, hS0, rfl⟩ ?_ ?_
  · rintro pre z post e hq ⟨L, cs, j3, j4, j5, hS, rfl⟩
    have hpl : pre.length ≤ 63 := by
      have := congrArg List.length hq
      rw [List.length_cons, List.length_append, List.length_cons] at this
      omega
    have hg := okS_goodF hS (by omega)
    have hL : L.length ≤ 1000 := by have := hS.2.1; omega
    have hR7 : R.length ≤ 7 := by omega
    have hR1 : 1 ≤ R.length := by omega
    have hcl : (comers R L).length ≤ 7 := Nat.le_trans (List.length_filter_le _ _) (by have := bells1_len R; omega)
    have c0 := Int.fmod_nonneg_of_pos z (b := 1000003) (by decide)
    obtain ⟨L', cs', hS', hN⟩ := next_ex (n := 39) (cell := z.fmod 1000003) (by decide) hB hR hS (by omega) hR7 hR1
    walk_at "law"
    rw [alike_k 1 (by decide) rfl (nats_ok (by omega)) (fun c h => by cases h) nats_noBl]
    walk_at "law"
    refine for_go_ex (comers R L) (fun (b : Nat) => .int (b : Int)) (fun p e => ∃ j5, e = [some (.sh (.lst (ns.map PV.int))), some (.sh (progpv B R)), some (.sh (PV.tup [.tup (L.map fun f => PV.tup [.int (f.row : Int), .int (f.place : Int), .int (f.turn : Int), .tup (f.hand.map PV.int)]), .tup (cs.map PV.int)])), some (.sh (.int z)), some (.sh (.lst ((comers R L).map fun (b : Nat) => .int (b : Int)))), j5]) rfl ⟨_, rfl⟩ ?_ ?_
    · rintro p b q e hb ⟨j5, rfl⟩
      have hbr := comers_lt (R := R) (L := L) (b := b) (by rw [hb]; simp)
      walk_at "law"
      rw [alike_k 4 (by decide) rfl (state_ok (okS_come hS hB hR hbr) hB (by omega) 0) (fun c h => by cases h) state_noBl]
      walk_at "law"
      exact ⟨_, rfl, _, rfl⟩
    · rintro e ⟨j5, rfl⟩
      try walk_at "law"
      rw [hN, Option.bind_some]
      try walk_at "law"
      exact ⟨_, rfl, L', cs', _, _, _, by rw [List.length_append]; exact hS', rfl⟩
  · rintro e ⟨L, cs, j3, j4, j5, hS, rfl⟩
    walk_at "law"
theorem scope_mk {N ps : List Str} {sc : Scope} (h : (decide (sc.kind = .function) && !sc.isCoroutine && !sc.isGenerator && decide N.Nodup && decide (N.take ps.length = ps) && (ps.all fun x => decide (sc.names.lookup x = some .local ∨ sc.names.lookup x = some .cell)) && sc.names.all fun y => decide (y.2 ≠ .free)) = true) : FnScope N ps sc := by
  simp only [Bool.and_eq_true, decide_eq_true_eq, List.all_eq_true, Bool.not_eq_true'] at h
  obtain ⟨⟨⟨⟨⟨⟨h1, h2⟩, h3⟩, h4⟩, h5⟩, h6⟩, h7⟩ := h
  exact ⟨h1, h2, h3, h4, h5, h6, h7⟩
theorem s0 : FnScope f0.N f0.ps (defScope (topS 1)) := scope_mk (by decide +kernel)
theorem c0 : chkSs P Gl f0.N (defScope (topS 1)) f0.body (defBody (topS 1)) = true := by decide +kernel
theorem s1 : FnScope f1.N f1.ps (defScope (topS 3)) := scope_mk (by decide +kernel)
theorem c1 : chkSs P Gl f1.N (defScope (topS 3)) f1.body (defBody (topS 3)) = true := by decide +kernel
theorem s2 : FnScope f2.N f2.ps (defScope (topS 4)) := scope_mk (by decide +kernel)
theorem c2 : chkSs P Gl f2.N (defScope (topS 4)) f2.body (defBody (topS 4)) = true := by decide +kernel
theorem s3 : FnScope f3.N f3.ps (defScope (topS 5)) := scope_mk (by decide +kernel)
theorem c3 : chkSs P Gl f3.N (defScope (topS 5)) f3.body (defBody (topS 5)) = true := by decide +kernel
theorem s4 : FnScope f4.N f4.ps (defScope (topS 6)) := scope_mk (by decide +kernel)
theorem c4 : chkSs P Gl f4.N (defScope (topS 6)) f4.body (defBody (topS 6)) = true := by decide +kernel
theorem s5 : FnScope f5.N f5.ps (defScope (topS 8)) := scope_mk (by decide +kernel)
theorem c5 : chkSs P Gl f5.N (defScope (topS 8)) f5.body (defBody (topS 8)) = true := by decide +kernel
theorem s6 : FnScope f6.N f6.ps (defScope (topS 9)) := scope_mk (by decide +kernel)
theorem c6 : chkSs P Gl f6.N (defScope (topS 9)) f6.body (defBody (topS 9)) = true := by decide +kernel
theorem s7 : FnScope f7.N f7.ps (defScope (topS 10)) := scope_mk (by decide +kernel)
theorem c7 : chkSs P Gl f7.N (defScope (topS 10)) f7.body (defBody (topS 10)) = true := by decide +kernel
theorem s8 : FnScope f8.N f8.ps (defScope (topS 12)) := scope_mk (by decide +kernel)
theorem c8 : chkSs P Gl f8.N (defScope (topS 12)) f8.body (defBody (topS 12)) = true := by decide +kernel
theorem s9 : FnScope f9.N f9.ps (defScope (topS 13)) := scope_mk (by decide +kernel)
theorem c9 : chkSs P Gl f9.N (defScope (topS 13)) f9.body (defBody (topS 13)) = true := by decide +kernel
theorem s10 : FnScope f10.N f10.ps (defScope (topS 14)) := scope_mk (by decide +kernel)
theorem c10 : chkSs P Gl f10.N (defScope (topS 14)) f10.body (defBody (topS 14)) = true := by decide +kernel
theorem s11 : FnScope f11.N f11.ps (defScope (topS 15)) := scope_mk (by decide +kernel)
theorem c11 : chkSs P Gl f11.N (defScope (topS 15)) f11.body (defBody (topS 15)) = true := by decide +kernel
theorem s12 : FnScope f12.N f12.ps (defScope (topS 16)) := scope_mk (by decide +kernel)
theorem c12 : chkSs P Gl f12.N (defScope (topS 16)) f12.body (defBody (topS 16)) = true := by decide +kernel
theorem s13 : FnScope f13.N f13.ps (defScope (topS 17)) := scope_mk (by decide +kernel)
theorem c13 : chkSs P Gl f13.N (defScope (topS 17)) f13.body (defBody (topS 17)) = true := by decide +kernel
theorem s14 : FnScope f14.N f14.ps (defScope (topS 18)) := scope_mk (by decide +kernel)
theorem c14 : chkSs P Gl f14.N (defScope (topS 18)) f14.body (defBody (topS 18)) = true := by decide +kernel
theorem s15 : FnScope f15.N f15.ps (defScope (topS 19)) := scope_mk (by decide +kernel)
theorem c15 : chkSs P Gl f15.N (defScope (topS 19)) f15.body (defBody (topS 19)) = true := by decide +kernel
theorem s16 : FnScope f16.N f16.ps (defScope (topS 20)) := scope_mk (by decide +kernel)
theorem c16 : chkSs P Gl f16.N (defScope (topS 20)) f16.body (defBody (topS 20)) = true := by decide +kernel
theorem s17 : FnScope f17.N f17.ps (defScope (topS 21)) := scope_mk (by decide +kernel)
theorem c17 : chkSs P Gl f17.N (defScope (topS 21)) f17.body (defBody (topS 21)) = true := by decide +kernel
theorem s18 : FnScope f18.N f18.ps (defScope (topS 22)) := scope_mk (by decide +kernel)
theorem c18 : chkSs P Gl f18.N (defScope (topS 22)) f18.body (defBody (topS 22)) = true := by decide +kernel
theorem s19 : FnScope f19.N f19.ps (defScope (topS 23)) := scope_mk (by decide +kernel)
theorem c19 : chkSs P Gl f19.N (defScope (topS 23)) f19.body (defBody (topS 23)) = true := by decide +kernel
theorem s20 : FnScope f20.N f20.ps (defScope (topS 24)) := scope_mk (by decide +kernel)
theorem c20 : chkSs P Gl f20.N (defScope (topS 24)) f20.body (defBody (topS 24)) = true := by decide +kernel
theorem s21 : FnScope f21.N f21.ps (defScope (topS 25)) := scope_mk (by decide +kernel)
theorem c21 : chkSs P Gl f21.N (defScope (topS 25)) f21.body (defBody (topS 25)) = true := by decide +kernel
theorem s22 : FnScope f22.N f22.ps (defScope (topS 26)) := scope_mk (by decide +kernel)
theorem c22 : chkSs P Gl f22.N (defScope (topS 26)) f22.body (defBody (topS 26)) = true := by decide +kernel
theorem s23 : FnScope f23.N f23.ps (defScope (topS 27)) := scope_mk (by decide +kernel)
theorem c23 : chkSs P Gl f23.N (defScope (topS 27)) f23.body (defBody (topS 27)) = true := by decide +kernel
theorem s24 : FnScope f24.N f24.ps (defScope (topS 28)) := scope_mk (by decide +kernel)
theorem c24 : chkSs P Gl f24.N (defScope (topS 28)) f24.body (defBody (topS 28)) = true := by decide +kernel
/-- a def as the top leaves it -/
structure At (K : PySem.W.Frag) (x : Str) (st : Stmt) (f : Addr) : Prop where
  a : PySem.W.nsIn K mainGlobals x = some (some (.ref f))
  l : ∃ (oc : Value) (od an : Option Addr) (sl : Array (Option Value)) (kV dc pm cd ct : Value), K.lookup f = some ⟨oc, od, .func (PySem.W.fnOf x x (defArgs st) (defBody st) (defScope st) .none kV dc pm an cd ct), sl⟩ ∧ PySem.W.codeIn K cd x = true
  k : PySem.W.keepIn K (.ref f) = true
theorem At.mk' {K : PySem.W.Frag} {x : Str} {st : Stmt} {f : Addr} {oc : Value} {od an : Option Addr} {sl : Array (Option Value)} {kV dc pm cd ct : Value} (a : PySem.W.nsIn K mainGlobals x = some (some (.ref f)))
  (l : K.lookup f = some ⟨oc, od, .func (PySem.W.fnOf x x (defArgs st) (defBody st) (defScope st) .none kV dc pm an cd ct), sl⟩) (c : PySem.W.codeIn K cd x = true) (k : PySem.W.keepIn K (.ref f) = true) : At K x st f := ⟨a, ⟨_, _, _, _, _, _, _, _, _, l, c⟩, k⟩
structure Top (K : PySem.W.Frag) (h : Heap) (mg : Str → Option Value) : Prop where
  d0 : ∃ f, At K "starts_of" (topS 1) f
  d1 : ∃ f, At K "word_at" (topS 3) f
  d2 : ∃ f, At K "shut_by" (topS 4) f
  d3 : ∃ f, At K "may_enter" (topS 5) f
  d4 : ∃ f, At K "entered" (topS 6) f
  d5 : ∃ f, At K "begin" (topS 8) f
  d6 : ∃ f, At K "may_come" (topS 9) f
  d7 : ∃ f, At K "come" (topS 10) f
  d8 : ∃ f, At K "_law_mixed" (topS 12) f
  d9 : ∃ f, At K "_law_number" (topS 13) f
  d10 : ∃ f, At K "_law_boxes" (topS 14) f
  d11 : ∃ f, At K "_law_deed" (topS 15) f
  d12 : ∃ f, At K "_law_row" (topS 16) f
  d13 : ∃ f, At K "_law_program" (topS 17) f
  d14 : ∃ f, At K "_law_word" (topS 18) f
  d15 : ∃ f, At K "_law_comers" (topS 19) f
  d16 : ∃ f, At K "_law_begin" (topS 20) f
  d17 : ∃ f, At K "_law_come" (topS 21) f
  d18 : ∃ f, At K "_law_cells" (topS 22) f
  d19 : ∃ f, At K "_law_turns" (topS 23) f
  d20 : ∃ f, At K "_law_turn_done" (topS 24) f
  d21 : ∃ f, At K "_law_behind" (topS 25) f
  d22 : ∃ f, At K "_law_next" (topS 26) f
  d23 : ∃ f, At K "_law_alike" (topS 27) f
  d24 : ∃ f, At K "law" (topS 28) f
  z_int : PySem.W.nsIn K mainGlobals "int" = some none
  z_str : PySem.W.nsIn K mainGlobals "str" = some none
  z_list : PySem.W.nsIn K mainGlobals "list" = some none
  z_tuple : PySem.W.nsIn K mainGlobals "tuple" = some none
  z_len : PySem.W.nsIn K mainGlobals "len" = some none
  z_sum : PySem.W.nsIn K mainGlobals "sum" = some none
  z_all : PySem.W.nsIn K mainGlobals "all" = some none
  z_any : PySem.W.nsIn K mainGlobals "any" = some none
  z_abs : PySem.W.nsIn K mainGlobals "abs" = some none
  z_max : PySem.W.nsIn K mainGlobals "max" = some none
  z_min : PySem.W.nsIn K mainGlobals "min" = some none
  z_sorted : PySem.W.nsIn K mainGlobals "sorted" = some none
  z_bool : PySem.W.nsIn K mainGlobals "bool" = some none
  z_isinstance : PySem.W.nsIn K mainGlobals "isinstance" = some none
  z_range : PySem.W.nsIn K mainGlobals "range" = some none
  z_enumerate : PySem.W.nsIn K mainGlobals "enumerate" = some none
  z_zip : PySem.W.nsIn K mainGlobals "zip" = some none
  z_reversed : PySem.W.nsIn K mainGlobals "reversed" = some none
theorem top_mk {K : PySem.W.Frag} {h : Heap} {mg : Str → Option Value} {e0 : Addr} {oc0 : Value} {od0 an0 : Option Addr} {sl0 : Array (Option Value)} {kV0 dc0 pm0 cd0 ct0 : Value} {e1 : Addr} {oc1 : Value} {od1 an1 : Option Addr} {sl1 : Array (Option Value)} {kV1 dc1 pm1 cd1 ct1 : Value} {e2 : Addr} {oc2 : Value} {od2 an2 : Option Addr} {sl2 : Array (Option Value)} {kV2 dc2 pm2 cd2 ct2 : Value} {e3 : Addr} {oc3 : Value} {od3 an3 : Option Addr} {sl3 : Array (Option Value)} {kV3 dc3 pm3 cd3 ct3 : Value} {e4 : Addr} {oc4 : Value} {od4 an4 : Option Addr} {sl4 : Array (Option Value)} {kV4 dc4 pm4 cd4 ct4 : Value} {e5 : Addr} {oc5 : Value} {od5 an5 : Option Addr} {sl5 : Array (Option Value)} {kV5 dc5 pm5 cd5 ct5 : Value} {e6 : Addr} {oc6 : Value} {od6 an6 : Option Addr} {sl6 : Array (Option Value)} {kV6 dc6 pm6 cd6 ct6 : Value} {e7 : Addr} {oc7 : Value} {od7 an7 : Option Addr} {sl7 : Array (Option Value)} {kV7 dc7 pm7 cd7 ct7 : Value} {e8 : Addr} {oc8 : Value} {od8 an8 : Option Addr} {sl8 : Array (Option Value)} {kV8 dc8 pm8 cd8 ct8 : Value} {e9 : Addr} {oc9 : Value} {od9 an9 : Option Addr} {sl9 : Array (Option Value)} {kV9 dc9 pm9 cd9 ct9 : Value} {e10 : Addr} {oc10 : Value} {od10 an10 : Option Addr} {sl10 : Array (Option Value)} {kV10 dc10 pm10 cd10 ct10 : Value} {e11 : Addr} {oc11 : Value} {od11 an11 : Option Addr} {sl11 : Array (Option Value)} {kV11 dc11 pm11 cd11 ct11 : Value} {e12 : Addr} {oc12 : Value} {od12 an12 : Option Addr} {sl12 : Array (Option Value)} {kV12 dc12 pm12 cd12 ct12 : Value} {e13 : Addr} {oc13 : Value} {od13 an13 : Option Addr} {sl13 : Array (Option Value)} {kV13 dc13 pm13 cd13 ct13 : Value} {e14 : Addr} {oc14 : Value} {od14 an14 : Option Addr} {sl14 : Array (Option Value)} {kV14 dc14 pm14 cd14 ct14 : Value} {e15 : Addr} {oc15 : Value} {od15 an15 : Option Addr} {sl15 : Array (Option Value)} {kV15 dc15 pm15 cd15 ct15 : Value} {e16 : Addr} {oc16 : Value} {od16 an16 : Option Addr} {sl16 : Array (Option Value)} {kV16 dc16 pm16 cd16 ct16 : Value} {e17 : Addr} {oc17 : Value} {od17 an17 : Option Addr} {sl17 : Array (Option Value)} {kV17 dc17 pm17 cd17 ct17 : Value} {e18 : Addr} {oc18 : Value} {od18 an18 : Option Addr} {sl18 : Array (Option Value)} {kV18 dc18 pm18 cd18 ct18 : Value} {e19 : Addr} {oc19 : Value} {od19 an19 : Option Addr} {sl19 : Array (Option Value)} {kV19 dc19 pm19 cd19 ct19 : Value} {e20 : Addr} {oc20 : Value} {od20 an20 : Option Addr} {sl20 : Array (Option Value)} {kV20 dc20 pm20 cd20 ct20 : Value} {e21 : Addr} {oc21 : Value} {od21 an21 : Option Addr} {sl21 : Array (Option Value)} {kV21 dc21 pm21 cd21 ct21 : Value} {e22 : Addr} {oc22 : Value} {od22 an22 : Option Addr} {sl22 : Array (Option Value)} {kV22 dc22 pm22 cd22 ct22 : Value} {e23 : Addr} {oc23 : Value} {od23 an23 : Option Addr} {sl23 : Array (Option Value)} {kV23 dc23 pm23 cd23 ct23 : Value} {e24 : Addr} {oc24 : Value} {od24 an24 : Option Addr} {sl24 : Array (Option Value)} {kV24 dc24 pm24 cd24 ct24 : Value}  (a0 : PySem.W.nsIn K mainGlobals "starts_of" = some (some (.ref e0))) (l0 : K.lookup e0 = some ⟨oc0, od0, .func (PySem.W.fnOf "starts_of" "starts_of" (defArgs (topS 1)) (defBody (topS 1)) (defScope (topS 1)) .none kV0 dc0 pm0 an0 cd0 ct0), sl0⟩) (c0 : PySem.W.codeIn K cd0 "starts_of" = true) (k0 : PySem.W.keepIn K (.ref e0) = true) (a1 : PySem.W.nsIn K mainGlobals "word_at" = some (some (.ref e1))) (l1 : K.lookup e1 = some ⟨oc1, od1, .func (PySem.W.fnOf "word_at" "word_at" (defArgs (topS 3)) (defBody (topS 3)) (defScope (topS 3)) .none kV1 dc1 pm1 an1 cd1 ct1), sl1⟩) (c1 : PySem.W.codeIn K cd1 "word_at" = true) (k1 : PySem.W.keepIn K (.ref e1) = true) (a2 : PySem.W.nsIn K mainGlobals "shut_by" = some (some (.ref e2))) (l2 : K.lookup e2 = some ⟨oc2, od2, .func (PySem.W.fnOf "shut_by" "shut_by" (defArgs (topS 4)) (defBody (topS 4)) (defScope (topS 4)) .none kV2 dc2 pm2 an2 cd2 ct2), sl2⟩) (c2 : PySem.W.codeIn K cd2 "shut_by" = true) (k2 : PySem.W.keepIn K (.ref e2) = true) (a3 : PySem.W.nsIn K mainGlobals "may_enter" = some (some (.ref e3))) (l3 : K.lookup e3 = some ⟨oc3, od3, .func (PySem.W.fnOf "may_enter" "may_enter" (defArgs (topS 5)) (defBody (topS 5)) (defScope (topS 5)) .none kV3 dc3 pm3 an3 cd3 ct3), sl3⟩) (c3 : PySem.W.codeIn K cd3 "may_enter" = true) (k3 : PySem.W.keepIn K (.ref e3) = true) (a4 : PySem.W.nsIn K mainGlobals "entered" = some (some (.ref e4))) (l4 : K.lookup e4 = some ⟨oc4, od4, .func (PySem.W.fnOf "entered" "entered" (defArgs (topS 6)) (defBody (topS 6)) (defScope (topS 6)) .none kV4 dc4 pm4 an4 cd4 ct4), sl4⟩) (c4 : PySem.W.codeIn K cd4 "entered" = true) (k4 : PySem.W.keepIn K (.ref e4) = true) (a5 : PySem.W.nsIn K mainGlobals "begin" = some (some (.ref e5))) (l5 : K.lookup e5 = some ⟨oc5, od5, .func (PySem.W.fnOf "begin" "begin" (defArgs (topS 8)) (defBody (topS 8)) (defScope (topS 8)) .none kV5 dc5 pm5 an5 cd5 ct5), sl5⟩) (c5 : PySem.W.codeIn K cd5 "begin" = true) (k5 : PySem.W.keepIn K (.ref e5) = true) (a6 : PySem.W.nsIn K mainGlobals "may_come" = some (some (.ref e6))) (l6 : K.lookup e6 = some ⟨oc6, od6, .func (PySem.W.fnOf "may_come" "may_come" (defArgs (topS 9)) (defBody (topS 9)) (defScope (topS 9)) .none kV6 dc6 pm6 an6 cd6 ct6), sl6⟩) (c6 : PySem.W.codeIn K cd6 "may_come" = true) (k6 : PySem.W.keepIn K (.ref e6) = true) (a7 : PySem.W.nsIn K mainGlobals "come" = some (some (.ref e7))) (l7 : K.lookup e7 = some ⟨oc7, od7, .func (PySem.W.fnOf "come" "come" (defArgs (topS 10)) (defBody (topS 10)) (defScope (topS 10)) .none kV7 dc7 pm7 an7 cd7 ct7), sl7⟩) (c7 : PySem.W.codeIn K cd7 "come" = true) (k7 : PySem.W.keepIn K (.ref e7) = true) (a8 : PySem.W.nsIn K mainGlobals "_law_mixed" = some (some (.ref e8))) (l8 : K.lookup e8 = some ⟨oc8, od8, .func (PySem.W.fnOf "_law_mixed" "_law_mixed" (defArgs (topS 12)) (defBody (topS 12)) (defScope (topS 12)) .none kV8 dc8 pm8 an8 cd8 ct8), sl8⟩) (c8 : PySem.W.codeIn K cd8 "_law_mixed" = true) (k8 : PySem.W.keepIn K (.ref e8) = true) (a9 : PySem.W.nsIn K mainGlobals "_law_number" = some (some (.ref e9))) (l9 : K.lookup e9 = some ⟨oc9, od9, .func (PySem.W.fnOf "_law_number" "_law_number" (defArgs (topS 13)) (defBody (topS 13)) (defScope (topS 13)) .none kV9 dc9 pm9 an9 cd9 ct9), sl9⟩) (c9 : PySem.W.codeIn K cd9 "_law_number" = true) (k9 : PySem.W.keepIn K (.ref e9) = true) (a10 : PySem.W.nsIn K mainGlobals "_law_boxes" = some (some (.ref e10))) (l10 : K.lookup e10 = some ⟨oc10, od10, .func (PySem.W.fnOf "_law_boxes" "_law_boxes" (defArgs (topS 14)) (defBody (topS 14)) (defScope (topS 14)) .none kV10 dc10 pm10 an10 cd10 ct10), sl10⟩) (c10 : PySem.W.codeIn K cd10 "_law_boxes" = true) (k10 : PySem.W.keepIn K (.ref e10) = true) (a11 : PySem.W.nsIn K mainGlobals "_law_deed" = some (some (.ref e11))) (l11 : K.lookup e11 = some ⟨oc11, od11, .func (PySem.W.fnOf "_law_deed" "_law_deed" (defArgs (topS 15)) (defBody (topS 15)) (defScope (topS 15)) .none kV11 dc11 pm11 an11 cd11 ct11), sl11⟩) (c11 : PySem.W.codeIn K cd11 "_law_deed" = true) (k11 : PySem.W.keepIn K (.ref e11) = true) (a12 : PySem.W.nsIn K mainGlobals "_law_row" = some (some (.ref e12))) (l12 : K.lookup e12 = some ⟨oc12, od12, .func (PySem.W.fnOf "_law_row" "_law_row" (defArgs (topS 16)) (defBody (topS 16)) (defScope (topS 16)) .none kV12 dc12 pm12 an12 cd12 ct12), sl12⟩) (c12 : PySem.W.codeIn K cd12 "_law_row" = true) (k12 : PySem.W.keepIn K (.ref e12) = true) (a13 : PySem.W.nsIn K mainGlobals "_law_program" = some (some (.ref e13))) (l13 : K.lookup e13 = some ⟨oc13, od13, .func (PySem.W.fnOf "_law_program" "_law_program" (defArgs (topS 17)) (defBody (topS 17)) (defScope (topS 17)) .none kV13 dc13 pm13 an13 cd13 ct13), sl13⟩) (c13 : PySem.W.codeIn K cd13 "_law_program" = true) (k13 : PySem.W.keepIn K (.ref e13) = true) (a14 : PySem.W.nsIn K mainGlobals "_law_word" = some (some (.ref e14))) (l14 : K.lookup e14 = some ⟨oc14, od14, .func (PySem.W.fnOf "_law_word" "_law_word" (defArgs (topS 18)) (defBody (topS 18)) (defScope (topS 18)) .none kV14 dc14 pm14 an14 cd14 ct14), sl14⟩) (c14 : PySem.W.codeIn K cd14 "_law_word" = true) (k14 : PySem.W.keepIn K (.ref e14) = true) (a15 : PySem.W.nsIn K mainGlobals "_law_comers" = some (some (.ref e15))) (l15 : K.lookup e15 = some ⟨oc15, od15, .func (PySem.W.fnOf "_law_comers" "_law_comers" (defArgs (topS 19)) (defBody (topS 19)) (defScope (topS 19)) .none kV15 dc15 pm15 an15 cd15 ct15), sl15⟩) (c15 : PySem.W.codeIn K cd15 "_law_comers" = true) (k15 : PySem.W.keepIn K (.ref e15) = true) (a16 : PySem.W.nsIn K mainGlobals "_law_begin" = some (some (.ref e16))) (l16 : K.lookup e16 = some ⟨oc16, od16, .func (PySem.W.fnOf "_law_begin" "_law_begin" (defArgs (topS 20)) (defBody (topS 20)) (defScope (topS 20)) .none kV16 dc16 pm16 an16 cd16 ct16), sl16⟩) (c16 : PySem.W.codeIn K cd16 "_law_begin" = true) (k16 : PySem.W.keepIn K (.ref e16) = true) (a17 : PySem.W.nsIn K mainGlobals "_law_come" = some (some (.ref e17))) (l17 : K.lookup e17 = some ⟨oc17, od17, .func (PySem.W.fnOf "_law_come" "_law_come" (defArgs (topS 21)) (defBody (topS 21)) (defScope (topS 21)) .none kV17 dc17 pm17 an17 cd17 ct17), sl17⟩) (c17 : PySem.W.codeIn K cd17 "_law_come" = true) (k17 : PySem.W.keepIn K (.ref e17) = true) (a18 : PySem.W.nsIn K mainGlobals "_law_cells" = some (some (.ref e18))) (l18 : K.lookup e18 = some ⟨oc18, od18, .func (PySem.W.fnOf "_law_cells" "_law_cells" (defArgs (topS 22)) (defBody (topS 22)) (defScope (topS 22)) .none kV18 dc18 pm18 an18 cd18 ct18), sl18⟩) (c18 : PySem.W.codeIn K cd18 "_law_cells" = true) (k18 : PySem.W.keepIn K (.ref e18) = true) (a19 : PySem.W.nsIn K mainGlobals "_law_turns" = some (some (.ref e19))) (l19 : K.lookup e19 = some ⟨oc19, od19, .func (PySem.W.fnOf "_law_turns" "_law_turns" (defArgs (topS 23)) (defBody (topS 23)) (defScope (topS 23)) .none kV19 dc19 pm19 an19 cd19 ct19), sl19⟩) (c19 : PySem.W.codeIn K cd19 "_law_turns" = true) (k19 : PySem.W.keepIn K (.ref e19) = true) (a20 : PySem.W.nsIn K mainGlobals "_law_turn_done" = some (some (.ref e20))) (l20 : K.lookup e20 = some ⟨oc20, od20, .func (PySem.W.fnOf "_law_turn_done" "_law_turn_done" (defArgs (topS 24)) (defBody (topS 24)) (defScope (topS 24)) .none kV20 dc20 pm20 an20 cd20 ct20), sl20⟩) (c20 : PySem.W.codeIn K cd20 "_law_turn_done" = true) (k20 : PySem.W.keepIn K (.ref e20) = true) (a21 : PySem.W.nsIn K mainGlobals "_law_behind" = some (some (.ref e21))) (l21 : K.lookup e21 = some ⟨oc21, od21, .func (PySem.W.fnOf "_law_behind" "_law_behind" (defArgs (topS 25)) (defBody (topS 25)) (defScope (topS 25)) .none kV21 dc21 pm21 an21 cd21 ct21), sl21⟩) (c21 : PySem.W.codeIn K cd21 "_law_behind" = true) (k21 : PySem.W.keepIn K (.ref e21) = true) (a22 : PySem.W.nsIn K mainGlobals "_law_next" = some (some (.ref e22))) (l22 : K.lookup e22 = some ⟨oc22, od22, .func (PySem.W.fnOf "_law_next" "_law_next" (defArgs (topS 26)) (defBody (topS 26)) (defScope (topS 26)) .none kV22 dc22 pm22 an22 cd22 ct22), sl22⟩) (c22 : PySem.W.codeIn K cd22 "_law_next" = true) (k22 : PySem.W.keepIn K (.ref e22) = true) (a23 : PySem.W.nsIn K mainGlobals "_law_alike" = some (some (.ref e23))) (l23 : K.lookup e23 = some ⟨oc23, od23, .func (PySem.W.fnOf "_law_alike" "_law_alike" (defArgs (topS 27)) (defBody (topS 27)) (defScope (topS 27)) .none kV23 dc23 pm23 an23 cd23 ct23), sl23⟩) (c23 : PySem.W.codeIn K cd23 "_law_alike" = true) (k23 : PySem.W.keepIn K (.ref e23) = true) (a24 : PySem.W.nsIn K mainGlobals "law" = some (some (.ref e24))) (l24 : K.lookup e24 = some ⟨oc24, od24, .func (PySem.W.fnOf "law" "law" (defArgs (topS 28)) (defBody (topS 28)) (defScope (topS 28)) .none kV24 dc24 pm24 an24 cd24 ct24), sl24⟩) (c24 : PySem.W.codeIn K cd24 "law" = true) (k24 : PySem.W.keepIn K (.ref e24) = true)  (z0 : PySem.W.nsIn K mainGlobals "int" = some none) (z1 : PySem.W.nsIn K mainGlobals "str" = some none) (z2 : PySem.W.nsIn K mainGlobals "list" = some none) (z3 : PySem.W.nsIn K mainGlobals "tuple" = some none) (z4 : PySem.W.nsIn K mainGlobals "len" = some none) (z5 : PySem.W.nsIn K mainGlobals "sum" = some none) (z6 : PySem.W.nsIn K mainGlobals "all" = some none) (z7 : PySem.W.nsIn K mainGlobals "any" = some none) (z8 : PySem.W.nsIn K mainGlobals "abs" = some none) (z9 : PySem.W.nsIn K mainGlobals "max" = some none) (z10 : PySem.W.nsIn K mainGlobals "min" = some none) (z11 : PySem.W.nsIn K mainGlobals "sorted" = some none) (z12 : PySem.W.nsIn K mainGlobals "bool" = some none) (z13 : PySem.W.nsIn K mainGlobals "isinstance" = some none) (z14 : PySem.W.nsIn K mainGlobals "range" = some none) (z15 : PySem.W.nsIn K mainGlobals "enumerate" = some none) (z16 : PySem.W.nsIn K mainGlobals "zip" = some none) (z17 : PySem.W.nsIn K mainGlobals "reversed" = some none) : Top K h mg :=
  ⟨⟨_, At.mk' a0 l0 c0 k0⟩, ⟨_, At.mk' a1 l1 c1 k1⟩, ⟨_, At.mk' a2 l2 c2 k2⟩, ⟨_, At.mk' a3 l3 c3 k3⟩, ⟨_, At.mk' a4 l4 c4 k4⟩, ⟨_, At.mk' a5 l5 c5 k5⟩, ⟨_, At.mk' a6 l6 c6 k6⟩, ⟨_, At.mk' a7 l7 c7 k7⟩, ⟨_, At.mk' a8 l8 c8 k8⟩, ⟨_, At.mk' a9 l9 c9 k9⟩, ⟨_, At.mk' a10 l10 c10 k10⟩, ⟨_, At.mk' a11 l11 c11 k11⟩, ⟨_, At.mk' a12 l12 c12 k12⟩, ⟨_, At.mk' a13 l13 c13 k13⟩, ⟨_, At.mk' a14 l14 c14 k14⟩, ⟨_, At.mk' a15 l15 c15 k15⟩, ⟨_, At.mk' a16 l16 c16 k16⟩, ⟨_, At.mk' a17 l17 c17 k17⟩, ⟨_, At.mk' a18 l18 c18 k18⟩, ⟨_, At.mk' a19 l19 c19 k19⟩, ⟨_, At.mk' a20 l20 c20 k20⟩, ⟨_, At.mk' a21 l21 c21 k21⟩, ⟨_, At.mk' a22 l22 c22 k22⟩, ⟨_, At.mk' a23 l23 c23 k23⟩, ⟨_, At.mk' a24 l24 c24 k24⟩, z0, z1, z2, z3, z4, z5, z6, z7, z8, z9, z10, z11, z12, z13, z14, z15, z16, z17⟩
section
variable {K : PySem.W.Frag} {h : Heap} {mg : Str → Option Value}
theorem at_fn (X : K.In h) (G : h.Ns mainGlobals mg) {x : Str} {st : Stmt} {f : Addr} {ps : List Str} (A : At K x st f) (hb : ∀ (kV doc pm : Value) (an : Option Addr) (cdv ct : Value) (us : List Value), us.length = ps.length → bindArgs (PySem.W.fnOf x x (defArgs st) (defBody st) (defScope st) .none kV doc pm an cdv ct) ⟨us, []⟩ = pure (ps.zip us)) :
    ∃ (fd : FuncData), Fun K x x st f fd ∧ mg x = some (.ref f) ∧ ∀ us : List Value, us.length = ps.length → bindArgs fd ⟨us, []⟩ = pure (ps.zip us) := by
  obtain ⟨oc, od, an, sl, kV, dc, pm, cd, ct, l, c⟩ := A.l
  have F := fun_mk (st := st) l c A.k
  exact ⟨_, F, PySem.W.mg_of X G A.a, hb _ _ _ _ _ _⟩
theorem txts (T : Top K h mg) (X : K.In h) (G : h.Ns mainGlobals mg) : Txts K mg P Gl := by
  refine ⟨fun g f hg => ?_, fun n hn => ?_, fun g hg => ?_⟩
  · match g, hg with
    | 0, hg =>
      obtain rfl : f0 = f := Option.some.inj hg
      obtain ⟨a, A⟩ := T.d0
      obtain ⟨fd, F, m, b⟩ := at_fn (ps := f0.ps) X G A fun _ _ _ _ _ _ us hl => match us, hl with | [_], _ => rfl
      exact ⟨_, a, fd, F, s0, c0, m, b⟩
    | 1, hg =>
      obtain rfl : f1 = f := Option.some.inj hg
      obtain ⟨a, A⟩ := T.d1
      obtain ⟨fd, F, m, b⟩ := at_fn (ps := f1.ps) X G A fun _ _ _ _ _ _ us hl => match us, hl with | [_, _, _], _ => rfl
      exact ⟨_, a, fd, F, s1, c1, m, b⟩
    | 2, hg =>
      obtain rfl : f2 = f := Option.some.inj hg
      obtain ⟨a, A⟩ := T.d2
      obtain ⟨fd, F, m, b⟩ := at_fn (ps := f2.ps) X G A fun _ _ _ _ _ _ us hl => match us, hl with | [_, _], _ => rfl
      exact ⟨_, a, fd, F, s2, c2, m, b⟩
    | 3, hg =>
      obtain rfl : f3 = f := Option.some.inj hg
      obtain ⟨a, A⟩ := T.d3
      obtain ⟨fd, F, m, b⟩ := at_fn (ps := f3.ps) X G A fun _ _ _ _ _ _ us hl => match us, hl with | [_, _, _], _ => rfl
      exact ⟨_, a, fd, F, s3, c3, m, b⟩
    | 4, hg =>
      obtain rfl : f4 = f := Option.some.inj hg
      obtain ⟨a, A⟩ := T.d4
      obtain ⟨fd, F, m, b⟩ := at_fn (ps := f4.ps) X G A fun _ _ _ _ _ _ us hl => match us, hl with | [_, _], _ => rfl
      exact ⟨_, a, fd, F, s4, c4, m, b⟩
    | 5, hg =>
      obtain rfl : f5 = f := Option.some.inj hg
      obtain ⟨a, A⟩ := T.d5
      obtain ⟨fd, F, m, b⟩ := at_fn (ps := f5.ps) X G A fun _ _ _ _ _ _ us hl => match us, hl with | [_], _ => rfl
      exact ⟨_, a, fd, F, s5, c5, m, b⟩
    | 6, hg =>
      obtain rfl : f6 = f := Option.some.inj hg
      obtain ⟨a, A⟩ := T.d6
      obtain ⟨fd, F, m, b⟩ := at_fn (ps := f6.ps) X G A fun _ _ _ _ _ _ us hl => match us, hl with | [_, _], _ => rfl
      exact ⟨_, a, fd, F, s6, c6, m, b⟩
    | 7, hg =>
      obtain rfl : f7 = f := Option.some.inj hg
      obtain ⟨a, A⟩ := T.d7
      obtain ⟨fd, F, m, b⟩ := at_fn (ps := f7.ps) X G A fun _ _ _ _ _ _ us hl => match us, hl with | [_, _, _], _ => rfl
      exact ⟨_, a, fd, F, s7, c7, m, b⟩
    | 8, hg =>
      obtain rfl : f8 = f := Option.some.inj hg
      obtain ⟨a, A⟩ := T.d8
      obtain ⟨fd, F, m, b⟩ := at_fn (ps := f8.ps) X G A fun _ _ _ _ _ _ us hl => match us, hl with | [_, _], _ => rfl
      exact ⟨_, a, fd, F, s8, c8, m, b⟩
    | 9, hg =>
      obtain rfl : f9 = f := Option.some.inj hg
      obtain ⟨a, A⟩ := T.d9
      obtain ⟨fd, F, m, b⟩ := at_fn (ps := f9.ps) X G A fun _ _ _ _ _ _ us hl => match us, hl with | [_, _], _ => rfl
      exact ⟨_, a, fd, F, s9, c9, m, b⟩
    | 10, hg =>
      obtain rfl : f10 = f := Option.some.inj hg
      obtain ⟨a, A⟩ := T.d10
      obtain ⟨fd, F, m, b⟩ := at_fn (ps := f10.ps) X G A fun _ _ _ _ _ _ us hl => match us, hl with | [_], _ => rfl
      exact ⟨_, a, fd, F, s10, c10, m, b⟩
    | 11, hg =>
      obtain rfl : f11 = f := Option.some.inj hg
      obtain ⟨a, A⟩ := T.d11
      obtain ⟨fd, F, m, b⟩ := at_fn (ps := f11.ps) X G A fun _ _ _ _ _ _ us hl => match us, hl with | [_, _, _, _], _ => rfl
      exact ⟨_, a, fd, F, s11, c11, m, b⟩
    | 12, hg =>
      obtain rfl : f12 = f := Option.some.inj hg
      obtain ⟨a, A⟩ := T.d12
      obtain ⟨fd, F, m, b⟩ := at_fn (ps := f12.ps) X G A fun _ _ _ _ _ _ us hl => match us, hl with | [_, _, _, _, _, _], _ => rfl
      exact ⟨_, a, fd, F, s12, c12, m, b⟩
    | 13, hg =>
      obtain rfl : f13 = f := Option.some.inj hg
      obtain ⟨a, A⟩ := T.d13
      obtain ⟨fd, F, m, b⟩ := at_fn (ps := f13.ps) X G A fun _ _ _ _ _ _ us hl => match us, hl with | [_, _, _, _], _ => rfl
      exact ⟨_, a, fd, F, s13, c13, m, b⟩
    | 14, hg =>
      obtain rfl : f14 = f := Option.some.inj hg
      obtain ⟨a, A⟩ := T.d14
      obtain ⟨fd, F, m, b⟩ := at_fn (ps := f14.ps) X G A fun _ _ _ _ _ _ us hl => match us, hl with | [_, _], _ => rfl
      exact ⟨_, a, fd, F, s14, c14, m, b⟩
    | 15, hg =>
      obtain rfl : f15 = f := Option.some.inj hg
      obtain ⟨a, A⟩ := T.d15
      obtain ⟨fd, F, m, b⟩ := at_fn (ps := f15.ps) X G A fun _ _ _ _ _ _ us hl => match us, hl with | [_, _], _ => rfl
      exact ⟨_, a, fd, F, s15, c15, m, b⟩
    | 16, hg =>
      obtain rfl : f16 = f := Option.some.inj hg
      obtain ⟨a, A⟩ := T.d16
      obtain ⟨fd, F, m, b⟩ := at_fn (ps := f16.ps) X G A fun _ _ _ _ _ _ us hl => match us, hl with | [_], _ => rfl
      exact ⟨_, a, fd, F, s16, c16, m, b⟩
    | 17, hg =>
      obtain rfl : f17 = f := Option.some.inj hg
      obtain ⟨a, A⟩ := T.d17
      obtain ⟨fd, F, m, b⟩ := at_fn (ps := f17.ps) X G A fun _ _ _ _ _ _ us hl => match us, hl with | [_, _], _ => rfl
      exact ⟨_, a, fd, F, s17, c17, m, b⟩
    | 18, hg =>
      obtain rfl : f18 = f := Option.some.inj hg
      obtain ⟨a, A⟩ := T.d18
      obtain ⟨fd, F, m, b⟩ := at_fn (ps := f18.ps) X G A fun _ _ _ _ _ _ us hl => match us, hl with | [_, _], _ => rfl
      exact ⟨_, a, fd, F, s18, c18, m, b⟩
    | 19, hg =>
      obtain rfl : f19 = f := Option.some.inj hg
      obtain ⟨a, A⟩ := T.d19
      obtain ⟨fd, F, m, b⟩ := at_fn (ps := f19.ps) X G A fun _ _ _ _ _ _ us hl => match us, hl with | [_, _], _ => rfl
      exact ⟨_, a, fd, F, s19, c19, m, b⟩
    | 20, hg =>
      obtain rfl : f20 = f := Option.some.inj hg
      obtain ⟨a, A⟩ := T.d20
      obtain ⟨fd, F, m, b⟩ := at_fn (ps := f20.ps) X G A fun _ _ _ _ _ _ us hl => match us, hl with | [_, _, _], _ => rfl
      exact ⟨_, a, fd, F, s20, c20, m, b⟩
    | 21, hg =>
      obtain rfl : f21 = f := Option.some.inj hg
      obtain ⟨a, A⟩ := T.d21
      obtain ⟨fd, F, m, b⟩ := at_fn (ps := f21.ps) X G A fun _ _ _ _ _ _ us hl => match us, hl with | [_, _], _ => rfl
      exact ⟨_, a, fd, F, s21, c21, m, b⟩
    | 22, hg =>
      obtain rfl : f22 = f := Option.some.inj hg
      obtain ⟨a, A⟩ := T.d22
      obtain ⟨fd, F, m, b⟩ := at_fn (ps := f22.ps) X G A fun _ _ _ _ _ _ us hl => match us, hl with | [_, _, _], _ => rfl
      exact ⟨_, a, fd, F, s22, c22, m, b⟩
    | 23, hg =>
      obtain rfl : f23 = f := Option.some.inj hg
      obtain ⟨a, A⟩ := T.d23
      obtain ⟨fd, F, m, b⟩ := at_fn (ps := f23.ps) X G A fun _ _ _ _ _ _ us hl => match us, hl with | [_, _], _ => rfl
      exact ⟨_, a, fd, F, s23, c23, m, b⟩
    | 24, hg =>
      obtain rfl : f24 = f := Option.some.inj hg
      obtain ⟨a, A⟩ := T.d24
      obtain ⟨fd, F, m, b⟩ := at_fn (ps := f24.ps) X G A fun _ _ _ _ _ _ us hl => match us, hl with | [_], _ => rfl
      exact ⟨_, a, fd, F, s24, c24, m, b⟩
  · simp only [bTypes, bFuns, List.cons_append, List.nil_append, List.contains_cons, List.contains_nil, Bool.or_eq_true, beq_iff_eq, Bool.or_false] at hn
    rcases hn with rfl | rfl | rfl | rfl | rfl | rfl | rfl | rfl | rfl | rfl | rfl | rfl | rfl | rfl | rfl | rfl | rfl | rfl
    · exact PySem.W.mg_none_of X G T.z_int
    · exact PySem.W.mg_none_of X G T.z_str
    · exact PySem.W.mg_none_of X G T.z_list
    · exact PySem.W.mg_none_of X G T.z_tuple
    · exact PySem.W.mg_none_of X G T.z_len
    · exact PySem.W.mg_none_of X G T.z_sum
    · exact PySem.W.mg_none_of X G T.z_all
    · exact PySem.W.mg_none_of X G T.z_any
    · exact PySem.W.mg_none_of X G T.z_abs
    · exact PySem.W.mg_none_of X G T.z_max
    · exact PySem.W.mg_none_of X G T.z_min
    · exact PySem.W.mg_none_of X G T.z_sorted
    · exact PySem.W.mg_none_of X G T.z_bool
    · exact PySem.W.mg_none_of X G T.z_isinstance
    · exact PySem.W.mg_none_of X G T.z_range
    · exact PySem.W.mg_none_of X G T.z_enumerate
    · exact PySem.W.mg_none_of X G T.z_zip
    · exact PySem.W.mg_none_of X G T.z_reversed
  · cases hg
end
end Pr
open PySem PySem.W PyProof.Rows
set_option maxHeartbeats 0 in
theorem PySem.Challenge.cw_bellnest_k60_states_begin_and_enter_holds : PySem.Challenge.rw_bellnest_k60_states_begin_and_enter.Holds := by
  w_on; o_law; k_head; (case hw => w_witness2)
  k_fill
  refine L2.walk_of (l := PySem.Challenge.rw_bellnest_k60_states_begin_and_enter) (n := 63) (k := 40) (x := "_law_script") (CX := fun _ => L2.CX0) (sp := fun w => Mir.spLaw _ (Mir.fns Pr.P 40 24)) rfl (by decide) rfl ⟨rfl, by decide, by decide⟩ (fun w h Y => PySem.W.kIn_of Y) ?F (fun _ _ a ns hl _ hS => ⟨a, ns, rfl, hS, Pr.law_true ns hl, fun _ => rfl⟩) (fun _ _ _ _ _ h => h)
  case F =>
    intro w mg fa h KX G hmg
    refine' Mir.law_end (Pr.txts (Pr.top_mk ?a0 ?l0 ?c0 ?k0 ?a1 ?l1 ?c1 ?k1 ?a2 ?l2 ?c2 ?k2 ?a3 ?l3 ?c3 ?k3 ?a4 ?l4 ?c4 ?k4 ?a5 ?l5 ?c5 ?k5 ?a6 ?l6 ?c6 ?k6 ?a7 ?l7 ?c7 ?k7 ?a8 ?l8 ?c8 ?k8 ?a9 ?l9 ?c9 ?k9 ?a10 ?l10 ?c10 ?k10 ?a11 ?l11 ?c11 ?k11 ?a12 ?l12 ?c12 ?k12 ?a13 ?l13 ?c13 ?k13 ?a14 ?l14 ?c14 ?k14 ?a15 ?l15 ?c15 ?k15 ?a16 ?l16 ?c16 ?k16 ?a17 ?l17 ?c17 ?k17 ?a18 ?l18 ?c18 ?k18 ?a19 ?l19 ?c19 ?k19 ?a20 ?l20 ?c20 ?k20 ?a21 ?l21 ?c21 ?k21 ?a22 ?l22 ?c22 ?k22 ?a23 ?l23 ?c23 ?k23 ?a24 ?l24 ?c24 ?k24 ?z0 ?z1 ?z2 ?z3 ?z4 ?z5 ?z6 ?z7 ?z8 ?z9 ?z10 ?z11 ?z12 ?z13 ?z14 ?z15 ?z16 ?z17) KX G) (g := 24) rfl rfl hmg 39
    (case a0 => k_is); (case l0 => k_is); (case c0 => k_is); (case k0 => k_is)
    (case a1 => k_is); (case l1 => k_is); (case c1 => k_is); (case k1 => k_is)
    (case a2 => k_is); (case l2 => k_is); (case c2 => k_is); (case k2 => k_is)
    (case a3 => k_is); (case l3 => k_is); (case c3 => k_is); (case k3 => k_is)
    (case a4 => k_is); (case l4 => k_is); (case c4 => k_is); (case k4 => k_is)
    (case a5 => k_is); (case l5 => k_is); (case c5 => k_is); (case k5 => k_is)
    (case a6 => k_is); (case l6 => k_is); (case c6 => k_is); (case k6 => k_is)
    (case a7 => k_is); (case l7 => k_is); (case c7 => k_is); (case k7 => k_is)
    (case a8 => k_is); (case l8 => k_is); (case c8 => k_is); (case k8 => k_is)
    (case a9 => k_is); (case l9 => k_is); (case c9 => k_is); (case k9 => k_is)
    (case a10 => k_is); (case l10 => k_is); (case c10 => k_is); (case k10 => k_is)
    (case a11 => k_is); (case l11 => k_is); (case c11 => k_is); (case k11 => k_is)
    (case a12 => k_is); (case l12 => k_is); (case c12 => k_is); (case k12 => k_is)
    (case a13 => k_is); (case l13 => k_is); (case c13 => k_is); (case k13 => k_is)
    (case a14 => k_is); (case l14 => k_is); (case c14 => k_is); (case k14 => k_is)
    (case a15 => k_is); (case l15 => k_is); (case c15 => k_is); (case k15 => k_is)
    (case a16 => k_is); (case l16 => k_is); (case c16 => k_is); (case k16 => k_is)
    (case a17 => k_is); (case l17 => k_is); (case c17 => k_is); (case k17 => k_is)
    (case a18 => k_is); (case l18 => k_is); (case c18 => k_is); (case k18 => k_is)
    (case a19 => k_is); (case l19 => k_is); (case c19 => k_is); (case k19 => k_is)
    (case a20 => k_is); (case l20 => k_is); (case c20 => k_is); (case k20 => k_is)
    (case a21 => k_is); (case l21 => k_is); (case c21 => k_is); (case k21 => k_is)
    (case a22 => k_is); (case l22 => k_is); (case c22 => k_is); (case k22 => k_is)
    (case a23 => k_is); (case l23 => k_is); (case c23 => k_is); (case k23 => k_is)
    (case a24 => k_is); (case l24 => k_is); (case c24 => k_is); (case k24 => k_is)
    (case z0 => k_is)
    (case z1 => k_is)
    (case z2 => k_is)
    (case z3 => k_is)
    (case z4 => k_is)
    (case z5 => k_is)
    (case z6 => k_is)
    (case z7 => k_is)
    (case z8 => k_is)
    (case z9 => k_is)
    (case z10 => k_is)
    (case z11 => k_is)
    (case z12 => k_is)
    (case z13 => k_is)
    (case z14 => k_is)
    (case z15 => k_is)
    (case z16 => k_is)
    (case z17 => k_is)
