import PyProof.Rows.All
import HandS.ForMost
import HandS.TupAny
import HandS.Zip
import HandS.IsInst
import HandS.Rev
import HandS.SortInts
import HandS.Deep
import HandS.Wide
import HandS.WideBits
import HandS.Small
import HandS.Conv
import HandS.Nested
import HandS.Flow
import KE.SortData
import KE.SortLaws
import PyProof.StrOps2
import KE.KDictCopyH
import HandS.CallRecv
import HandS.Strs
import HandS.SetFor
import HandS.RevTup
import PyProof.Rows.ListGenD
import KE.KRevIter
import HandS.Iter
import HandS.DictTup
import KE.SortKeyHeap
import HandS.SortKw
import HandS.ExcInit
import HandS.ExcIs
import KE.KExcIs
import HandS.ExcField
import HandS.TryOnly
import HandS.TryMany
import HandS.EndTab
import HandS.Defaults
import KE.BitLaws
import KE.KBits
import KE.KIntText
import HandS.Codes
import KE.IntTextLaws
import KE.KxText
import PySem.Challenge.RW_bellnest_k08_stretches
set_option Elab.async false
set_option linter.all false
set_option maxRecDepth 100000
set_option maxHeartbeats 0
/-! Me1: pure values (PV), how they lie in a heap (Rep), owned trees (Sl, Tr), what a frame holds (Hyp). -/
namespace Me
open PySem PySem.Spec PyProof.Rows L2
open NdefX (TabsN NTab TabN)
open LamX (CodeO TabB ExtN)

/-! ### functions that a def hands back -/
/-- what is told of such a function: its names, its text, the names that it captures -/
structure NFd where
  name : Str
  qual : Str
  params : Arguments
  body : Sum (List Stmt) Expr
  scope : Scope
  fr : List Str
/-- the functions that defs hand back, by number; the tables of code objects -/
class RegS where
  nf : Nat → NFd
  /-- the numbers that stand for such functions -/
  inn : Nat → Bool
  /-- the name of the code object that is made at a place of the text -/
  nm : Nat → Nat → Str
class Reg extends RegS where
  ad : PySem.W.Frag → List Addr
noncomputable def Reg.T [Reg] (K : PySem.W.Frag) : List NTab := (Reg.ad K).map fun P => (P, RegS.nm)
noncomputable def NFd.fd (F : NFd) (cl : List (Str × Addr)) (c : Addr) (doc pm ctv : Value) : FuncData := match F.body with
  | .inl b => PySem.W.fnX F.name F.qual F.params b F.scope cl .none .none doc pm none (.ref c) ctv
  | .inr e => PySem.W.kla_fn F.name F.qual F.params e F.scope cl pm (.ref c) ctv
/-- the object at f is such a function; the cell at c holds v -/
noncomputable def CloO (f : Addr) (F : NFd) (cl : List (Str × Addr)) (c : Addr) : HO := .ext fun h => ∃ (od : Option Addr) (sl : Array (Option Value)) (doc pm ctv : Value), h.get? f = some (⟨.type "function", od, .func (F.fd cl c doc pm ctv), sl⟩ : Obj)
noncomputable def CellO (c : Addr) (v : V) : HO := .ext fun h => ∃ u, L2.RelV v u ∧ h.IsCell c (some u)
/-- an exception of the class cls at a, caught, its dict d -/
noncomputable def ExV (a : Addr) (cls : Value) (d : Option Addr) : HO := .ext fun h => ∃ oe : Obj, h.get? a = some oe ∧ L2.Zc cls d oe ∧ ∃ vs, oe.data = .fields vs
/-- the captured cells -/
structure CellsM (M : Hp) (cl : List (Str × Addr)) (fr : List Str) (vs : List V) : Prop where
  sub : ∀ y a, cl.lookup y = some a → y ∈ fr
  inj : ∀ x y a, cl.lookup x = some a → cl.lookup y = some a → x = y
  len : vs.length = fr.length
  at' : ∀ (i : Nat) (y : Str), fr[i]? = some y → ∃ a v, cl.lookup y = some a ∧ vs[i]? = some v ∧ M a = some (CellO a v)
theorem CellsM.mono {M M' : Hp} {cl : List (Str × Addr)} {fr : List Str} {vs : List V} (h : CellsM M cl fr vs) (s : Same M M') : CellsM M' cl fr vs :=
  ⟨h.sub, h.inj, h.len, fun i y e => let ⟨a, v, h1, h2, h3⟩ := h.at' i y e; ⟨a, v, h1, h2, s _ _ h3⟩⟩
variable [Reg]

/-- a pure value; dct: a dict by the kind of its keys (0: ints and texts, 1: tuples of these); obj: an instance that stays as it is -/
inductive PV where
  | non | bl (b : Bool) | int (i : Int) | str (s : Str) | tup (xs : List PV) | lst (xs : List PV)
  | dct (t : Nat) (kvs : List (PV × PV)) | obj (c : Str) (ns : List Str) (xs : List PV) | fn (g : Nat) (xs : List PV)
  /-- a caught exception of the text's class c, its one field -/
  | exc (c f : Str) (p : PV)
  /-- what stands at an address, whatever it is -/
  | adr (a : Addr)
  deriving Inhabited
noncomputable def kP : Key → PV
  | .inl i => .int i
  | .inr s => .str s
noncomputable def kT (ks : List Key) : PV := .tup (ks.map kP)
/-- the class that a name of the top holds -/
noncomputable def ClsAt (K : PySem.W.Frag) (c : Str) (C : Addr) : Prop := PySem.W.nsIn K mainGlobals c = some (some (.ref C))
theorem ClsAt.uniq {K : PySem.W.Frag} {c : Str} {C D : Addr} (h : ClsAt K c C) (g : ClsAt K c D) : C = D := by
  unfold ClsAt at h g
  rw [h] at g
  injection g with g
  injection g with g
  injection g

mutual
inductive Rep [Reg] (K : PySem.W.Frag) (M : Hp) : V → PV → Prop
  | non : Rep K M .non .non
  | bl (b : Bool) : Rep K M (.bl b) (.bl b)
  | int (i : Int) : Rep K M (.int i) (.int i)
  | str (s : Str) : Rep K M (.str s) (.str s)
  | tup {a : Addr} {vs : List V} {ps : List PV} : M a = some (.tup vs) → Reps K M vs ps → Rep K M (.ref a) (.tup ps)
  | lst {a : Addr} {vs : List V} {ps : List PV} : SqL K M a vs → Reps K M vs ps → Rep K M (.ref a) (.lst ps)
  | dK {a : Addr} {kvs : List (Key × V)} {qs : List (PV × PV)} : M a = some (.dK kvs) → kvs.map (fun e => kP e.1) = qs.map (·.1) → Reps K M (kvs.map (·.2)) (qs.map (·.2)) → Rep K M (.ref a) (.dct 0 qs)
  | dT {a : Addr} {kvs : List (List Key × V)} {qs : List (PV × PV)} : M a = some (.dT kvs) → kvs.map (fun e => kT e.1) = qs.map (·.1) → Reps K M (kvs.map (·.2)) (qs.map (·.2)) → Rep K M (.ref a) (.dct 1 qs)
  | obj {a dx C : Addr} {c : Str} {fs : List (Str × V)} {ns : List Str} {xs : List PV} : M a = some (.ins C dx fs) → M dx = some (.own a) → ClsAt K c C → fs.map (·.1) = ns → Reps K M (fs.map (·.2)) xs → Rep K M (.ref a) (.obj c ns xs)
  | fn {f c : Addr} {g : Nat} {cl : List (Str × Addr)} {vs : List V} {ps : List PV} : RegS.inn g = true → M f = some (CloO f (RegS.nf g) cl c) → M c = some (CodeO c (RegS.nf g).qual) → CellsM M cl (RegS.nf g).fr vs → Reps K M vs ps → Rep K M (.ref f) (.fn g ps)
  | exc {a dd C : Addr} {c f : Str} {v : V} {p : PV} : M a = some (ExV a (.ref C) (some dd)) → M dd = some (.xd [(f, v)]) → ClsAt K c C → Rep K M v p → Rep K M (.ref a) (.exc c f p)
  | adr (a : Addr) : Rep K M (.ref a) (.adr a)
inductive Reps [Reg] (K : PySem.W.Frag) (M : Hp) : List V → List PV → Prop
  | nil : Reps K M [] []
  | cons {v : V} {p : PV} {vs : List V} {ps : List PV} : Rep K M v p → Reps K M vs ps → Reps K M (v :: vs) (p :: ps)
end

mutual
theorem Rep.mono {K : PySem.W.Frag} {M M' : Hp} (s : Same M M') : ∀ {v : V} {p : PV}, Rep K M v p → Rep K M' v p
  | _, _, .non => .non
  | _, _, .bl b => .bl b
  | _, _, .int i => .int i
  | _, _, .str x => .str x
  | _, _, .tup h r => .tup (s _ _ h) (Reps.mono s r)
  | _, _, .lst h r => .lst (Same.seq s h) (Reps.mono s r)
  | _, _, .dK h e r => .dK (s _ _ h) e (Reps.mono s r)
  | _, _, .dT h e r => .dT (s _ _ h) e (Reps.mono s r)
  | _, _, .obj h d c e r => .obj (s _ _ h) (s _ _ d) c e (Reps.mono s r)
  | _, _, .fn i h d c r => .fn i (s _ _ h) (s _ _ d) (c.mono s) (Reps.mono s r)
  | _, _, .exc h d c r => .exc (s _ _ h) (s _ _ d) c (Rep.mono s r)
  | _, _, .adr a => .adr a
theorem Reps.mono {K : PySem.W.Frag} {M M' : Hp} (s : Same M M') : ∀ {vs : List V} {ps : List PV}, Reps K M vs ps → Reps K M' vs ps
  | _, _, .nil => .nil
  | _, _, .cons h r => .cons (Rep.mono s h) (Reps.mono s r)
end
section
variable {K : PySem.W.Frag} {M : Hp}
theorem Reps.length : ∀ {vs : List V} {ps : List PV}, Reps K M vs ps → vs.length = ps.length
  | _, _, .nil => rfl
  | _, _, .cons _ r => congrArg (· + 1) (Reps.length r)
theorem Reps.append : ∀ {vs ws : List V} {ps qs : List PV}, Reps K M vs ps → Reps K M ws qs → Reps K M (vs ++ ws) (ps ++ qs)
  | _, _, _, _, .nil, r => r
  | _, _, _, _, .cons h t, r => .cons h (Reps.append t r)
theorem Reps.get : ∀ {vs : List V} {ps : List PV} {i : Nat} {p : PV}, Reps K M vs ps → ps[i]? = some p → ∃ v, vs[i]? = some v ∧ Rep K M v p
  | _, _, _, _, .nil, e => by simp at e
  | _, _, 0, _, .cons h _, e => by simp at e; subst e; exact ⟨_, rfl, h⟩
  | _, _, i + 1, _, .cons _ t, e => by
    obtain ⟨v, h1, h2⟩ := Reps.get (i := i) t (by simpa using e)
    exact ⟨v, by simpa using h1, h2⟩
theorem Reps.take : ∀ {vs : List V} {ps : List PV} (n : Nat), Reps K M vs ps → Reps K M (vs.take n) (ps.take n)
  | _, _, 0, _ => .nil
  | _, _, _ + 1, .nil => .nil
  | _, _, n + 1, .cons h t => .cons h (Reps.take n t)
theorem Reps.drop : ∀ {vs : List V} {ps : List PV} (n : Nat), Reps K M vs ps → Reps K M (vs.drop n) (ps.drop n)
  | _, _, 0, r => r
  | _, _, _ + 1, .nil => .nil
  | _, _, n + 1, .cons _ t => Reps.drop n t
theorem Reps.set : ∀ {vs : List V} {ps : List PV} (i : Nat) {v : V} {p : PV}, Reps K M vs ps → Rep K M v p → Reps K M (vs.set i v) (ps.set i p)
  | _, _, _, _, _, .nil, _ => .nil
  | _, _, 0, _, _, .cons _ t, h => .cons h t
  | _, _, i + 1, _, _, .cons g t, h => .cons g (Reps.set i t h)
theorem Reps.snoc {vs : List V} {ps : List PV} {v : V} {p : PV} (r : Reps K M vs ps) (h : Rep K M v p) : Reps K M (vs ++ [v]) (ps ++ [p]) := r.append (.cons h .nil)
theorem Reps.dropLast : ∀ {vs : List V} {ps : List PV}, Reps K M vs ps → Reps K M vs.dropLast ps.dropLast
  | _, _, .nil => .nil
  | _, _, .cons h .nil => .nil
  | _, _, .cons h (.cons g t) => .cons h (Reps.dropLast (.cons g t))
theorem Reps.ints : ∀ {vs : List V} {ns : List Int}, Reps K M vs (ns.map PV.int) → vs = ns.map V.int
  | [], [], _ => rfl
  | v :: vs, n :: ns, h => by
    simp only [List.map_cons] at h
    cases h with
    | cons h t => cases h; rw [Reps.ints t, List.map_cons]
theorem Reps.of_ints : ∀ (ns : List Int), Reps K M (ns.map V.int) (ns.map PV.int)
  | [] => .nil
  | n :: ns => .cons (.int n) (Reps.of_ints ns)
theorem Reps.bls : ∀ {vs : List V} {ns : List Bool}, Reps K M vs (ns.map PV.bl) → vs = ns.map V.bl
  | [], [], _ => rfl
  | v :: vs, n :: ns, h => by
    simp only [List.map_cons] at h
    cases h with
    | cons h t => cases h; rw [Reps.bls t, List.map_cons]
theorem Reps.strs : ∀ {vs : List V} {ns : List Str}, Reps K M vs (ns.map PV.str) → vs = ns.map V.str
  | [], [], _ => rfl
  | v :: vs, n :: ns, h => by
    simp only [List.map_cons] at h
    cases h with
    | cons h t => cases h; rw [Reps.strs t, List.map_cons]
theorem Reps.of_strs : ∀ (ns : List Str), Reps K M (ns.map V.str) (ns.map PV.str)
  | [] => .nil
  | n :: ns => .cons (.str n) (Reps.of_strs ns)
end

/-! ### no lists, dicts, instances within -/
mutual
noncomputable def PV.flat : PV → Bool
  | .non => true | .bl _ => true | .int _ => true | .str _ => true | .tup xs => PV.flats xs | .lst _ => false | .dct _ _ => false | .obj _ _ _ => false | .fn _ _ => false | .exc _ _ _ => false | .adr _ => true
noncomputable def PV.flats : List PV → Bool
  | [] => true
  | p :: ps => p.flat && PV.flats ps
end
noncomputable def tupH : HO → Bool
  | .tup _ => true
  | _ => false
/-- what trees are made of -/
noncomputable def trO : HO → Bool
  | .lst _ => true | .dK _ => true | .dT _ => true | .ins _ _ _ => true | .own _ => true | .frz _ (.dT _) => true
  | _ => false
/-- no table of code objects -/
noncomputable def ntO : HO → Bool
  | .tbl _ => false
  | _ => true
theorem trO_nt {o : HO} (h : trO o = true) : ntO o = true := by cases o <;> first | rfl | cases h
theorem trO_tup {o : HO} (h : trO o = true) : tupH o = false := by cases o <;> first | rfl | cases h
mutual
/-- what holds no list lies in the tuples alone -/
theorem Rep.flatMono {K : PySem.W.Frag} {M M' : Hp} (s : ∀ b o, M b = some o → tupH o = true → M' b = some o) : ∀ {v : V} {p : PV}, p.flat = true → Rep K M v p → Rep K M' v p
  | _, _, _, .non => .non
  | _, _, _, .bl b => .bl b
  | _, _, _, .int i => .int i
  | _, _, _, .str x => .str x
  | _, .tup ps, f, .tup h r => by
    exact .tup (s _ _ h rfl) (Reps.flatMono s (by simpa [PV.flat] using f) r)
  | _, .lst _, f, .lst _ _ => by simp [PV.flat] at f
  | _, .dct _ _, f, .dK _ _ _ => by simp [PV.flat] at f
  | _, .dct _ _, f, .dT _ _ _ => by simp [PV.flat] at f
  | _, .obj _ _ _, f, .obj _ _ _ _ _ => by simp [PV.flat] at f
  | _, .fn _ _, f, .fn _ _ _ _ _ => by simp [PV.flat] at f
  | _, .exc _ _ _, f, .exc _ _ _ _ => by simp [PV.flat] at f
  | _, _, _, .adr a => .adr a
theorem Reps.flatMono {K : PySem.W.Frag} {M M' : Hp} (s : ∀ b o, M b = some o → tupH o = true → M' b = some o) : ∀ {vs : List V} {ps : List PV}, PV.flats ps = true → Reps K M vs ps → Reps K M' vs ps
  | _, _, _, .nil => .nil
  | _, p :: ps, f, .cons h r => by
    simp only [PV.flats, Bool.and_eq_true] at f
    exact .cons (Rep.flatMono s f.1 h) (Reps.flatMono s f.2 r)
end

/-! ### slots: a shared value; an owned list (of shared values, of trees), dict, instance -/
inductive Sl where
  | sh (p : PV) | own (xs : List PV) | nst (xs : List Sl) | dct (t : Nat) (kvs : List (PV × PV)) | ins (c : Str) (ns : List Str) (xs : List Sl)
  /-- a tuple, its first part a list of one's own, the others shared -/
  | tpl (hs xs ps : List PV)
  deriving Inhabited
mutual
noncomputable def Sl.pv : Sl → PV
  | .sh p => p
  | .own xs => .lst xs
  | .nst xs => .lst (Sl.pvs xs)
  | .dct t kvs => .dct t kvs
  | .ins c ns xs => .obj c ns (Sl.pvs xs)
  | .tpl hs xs ps => .tup (hs ++ .lst xs :: ps)
noncomputable def Sl.pvs : List Sl → List PV
  | [] => []
  | s :: ss => s.pv :: Sl.pvs ss
end
mutual
noncomputable def Sl.flat : Sl → Bool
  | .sh p => p.flat
  | .own xs => PV.flats xs
  | .nst xs => Sl.flats xs
  | .dct _ kvs => PV.flats (kvs.map (·.2))
  | .ins _ _ xs => Sl.flats xs
  | .tpl hs xs ps => PV.flats hs && (PV.flats xs && PV.flats ps)
noncomputable def Sl.flats : List Sl → Bool
  | [] => true
  | s :: ss => s.flat && Sl.flats ss
end
/-- the part of a tree at a path -/
noncomputable def Sl.sub : Sl → List Nat → Option Sl
  | .tpl _ _ _, _ => none
  | s, [] => some s
  | .nst xs, n :: π => (xs[n]?).bind fun s => s.sub π
  | .ins _ _ xs, n :: π => (xs[n]?).bind fun s => s.sub π
  | _, _ :: _ => none
noncomputable def Sl.isTpl : Sl → Bool
  | .tpl _ _ _ => true
  | _ => false
theorem Sl.sub_nil {s : Sl} (h : s.isTpl = false) : s.sub [] = some s := by cases s <;> first | rfl | cases h
theorem Sl.sub_tpl {s t : Sl} : ∀ {π : List Nat}, s.sub π = some t → t.isTpl = false
  | [], e => by
    cases s <;> first | (cases e; rfl) | cases e
  | n :: π, e => by
    cases s with
    | nst xs =>
      simp only [Sl.sub, Option.bind_eq_some_iff] at e
      obtain ⟨u, _, e2⟩ := e
      exact Sl.sub_tpl e2
    | ins c ns xs =>
      simp only [Sl.sub, Option.bind_eq_some_iff] at e
      obtain ⟨u, _, e2⟩ := e
      exact Sl.sub_tpl e2
    | _ => simp [Sl.sub] at e
noncomputable def Sl.put : Sl → List Nat → Sl → Sl
  | _, [], t => t
  | .nst xs, n :: π, t => .nst (match xs[n]? with | some s => xs.set n (s.put π t) | none => xs)
  | .ins c ns xs, n :: π, t => .ins c ns (match xs[n]? with | some s => xs.set n (s.put π t) | none => xs)
  | s, _ :: _, _ => s

mutual
inductive Tr [Reg] (K : PySem.W.Frag) (H0 M H : Hp) : V → Sl → List Addr → Prop
  | sh {v : V} {p : PV} : Rep K M v p → Tr K H0 M H v (.sh p) []
  | own {a : Addr} {vs : List V} {ps : List PV} : M a = none → H0 a = none → H a = some (.lst vs) → Reps K M vs ps → Tr K H0 M H (.ref a) (.own ps) [a]
  | nst {a : Addr} {vs : List V} {ss : List Sl} {As : List Addr} : M a = none → H0 a = none → H a = some (.lst vs) → Trs K H0 M H vs ss As → Tr K H0 M H (.ref a) (.nst ss) (a :: As)
  | dK {a : Addr} {kvs : List (Key × V)} {qs : List (PV × PV)} : M a = none → H0 a = none → H a = some (.dK kvs) → kvs.map (fun e => kP e.1) = qs.map (·.1) → Reps K M (kvs.map (·.2)) (qs.map (·.2)) → Tr K H0 M H (.ref a) (.dct 0 qs) [a]
  | dT {a : Addr} {kvs : List (List Key × V)} {qs : List (PV × PV)} : M a = none → H0 a = none → H a = some (.dT kvs) → kvs.map (fun e => kT e.1) = qs.map (·.1) → Reps K M (kvs.map (·.2)) (qs.map (·.2)) → Tr K H0 M H (.ref a) (.dct 1 qs) [a]
  | ins {a dx C : Addr} {c : Str} {fs : List (Str × V)} {ns : List Str} {ss : List Sl} {As : List Addr} : M a = none → H0 a = none → M dx = none → H0 dx = none → H a = some (.ins C dx fs) → H dx = some (.own a) → ClsAt K c C → fs.map (·.1) = ns → Trs K H0 M H (fs.map (·.2)) ss As → Tr K H0 M H (.ref a) (.ins c ns ss) (a :: dx :: As)
  | tpl {a b : Addr} {us vs ws : List V} {hs xs ps : List PV} : M a = some (.tup (us ++ .ref b :: vs)) → M b = none → H0 b = none → H b = some (.lst ws) → Reps K M us hs → Reps K M ws xs → Reps K M vs ps → Tr K H0 M H (.ref a) (.tpl hs xs ps) [b]
inductive Trs [Reg] (K : PySem.W.Frag) (H0 M H : Hp) : List V → List Sl → List Addr → Prop
  | nil : Trs K H0 M H [] [] []
  | cons {v : V} {s : Sl} {vs : List V} {ss : List Sl} {A B : List Addr} : Tr K H0 M H v s A → Trs K H0 M H vs ss B → Trs K H0 M H (v :: vs) (s :: ss) (A ++ B)
end

section
variable {K : PySem.W.Frag} {H0 H0' M M' H H' : Hp}
theorem Trs.length : ∀ {vs : List V} {ss : List Sl} {As : List Addr}, Trs K H0 M H vs ss As → vs.length = ss.length
  | _, _, _, .nil => rfl
  | _, _, _, .cons _ r => congrArg (· + 1) r.length
mutual
/-- a tree stands in what its addresses hold -/
theorem Tr.frame (sm : Same M M') : ∀ {v : V} {s : Sl} {As : List Addr}, Tr K H0 M H v s As → (∀ b ∈ As, M' b = none ∧ H0' b = none ∧ H' b = H b) → Tr K H0' M' H' v s As
  | _, _, _, .sh r, _ => .sh (Rep.mono sm r)
  | _, _, _, .own _ _ h r, k => by
    have q := k _ (List.mem_singleton.mpr rfl)
    exact .own q.1 q.2.1 (q.2.2.trans h) (Reps.mono sm r)
  | _, _, _, .nst _ _ h r, k => by
    have q := k _ List.mem_cons_self
    exact .nst q.1 q.2.1 (q.2.2.trans h) (Trs.frame sm r fun b hb => k b (List.mem_cons_of_mem _ hb))
  | _, _, _, .dK _ _ h e r, k => by
    have q := k _ (List.mem_singleton.mpr rfl)
    exact .dK q.1 q.2.1 (q.2.2.trans h) e (Reps.mono sm r)
  | _, _, _, .dT _ _ h e r, k => by
    have q := k _ (List.mem_singleton.mpr rfl)
    exact .dT q.1 q.2.1 (q.2.2.trans h) e (Reps.mono sm r)
  | _, _, _, .ins _ _ _ _ h d c e r, k => by
    have q := k _ List.mem_cons_self
    have q2 := k _ (List.mem_cons_of_mem _ List.mem_cons_self)
    exact .ins q.1 q.2.1 q2.1 q2.2.1 (q.2.2.trans h) (q2.2.2.trans d) c e (Trs.frame sm r fun b hb => k b (List.mem_cons_of_mem _ (List.mem_cons_of_mem _ hb)))
  | _, _, _, .tpl h _ _ d r0 r r2, k => by
    have q := k _ (List.mem_singleton.mpr rfl)
    exact .tpl (sm _ _ h) q.1 q.2.1 (q.2.2.trans d) (Reps.mono sm r0) (Reps.mono sm r) (Reps.mono sm r2)
theorem Trs.frame (sm : Same M M') : ∀ {vs : List V} {ss : List Sl} {As : List Addr}, Trs K H0 M H vs ss As → (∀ b ∈ As, M' b = none ∧ H0' b = none ∧ H' b = H b) → Trs K H0' M' H' vs ss As
  | _, _, _, .nil, _ => .nil
  | _, _, _, .cons h r, k => .cons (Tr.frame sm h fun b hb => k b (List.mem_append_left _ hb)) (Trs.frame sm r fun b hb => k b (List.mem_append_right _ hb))
end
mutual
theorem Tr.mem : ∀ {v : V} {s : Sl} {As : List Addr}, Tr K H0 M H v s As → ∀ b ∈ As, M b = none ∧ H0 b = none ∧ ∃ o, H b = some o ∧ trO o = true
  | _, _, _, .sh _, b, hb => by cases hb
  | _, _, _, .own m h0 h _, b, hb => by cases List.mem_singleton.mp hb; exact ⟨m, h0, _, h, rfl⟩
  | _, _, _, .nst m h0 h r, b, hb => by
    rcases List.mem_cons.mp hb with rfl | hb
    · exact ⟨m, h0, _, h, rfl⟩
    · exact Trs.mem r b hb
  | _, _, _, .dK m h0 h _ _, b, hb => by cases List.mem_singleton.mp hb; exact ⟨m, h0, _, h, rfl⟩
  | _, _, _, .dT m h0 h _ _, b, hb => by cases List.mem_singleton.mp hb; exact ⟨m, h0, _, h, rfl⟩
  | _, _, _, .ins m h0 m2 h2 h d _ _ r, b, hb => by
    rcases List.mem_cons.mp hb with rfl | hb
    · exact ⟨m, h0, _, h, rfl⟩
    · rcases List.mem_cons.mp hb with rfl | hb
      · exact ⟨m2, h2, _, d, rfl⟩
      · exact Trs.mem r b hb
  | _, _, _, .tpl h m h0 d _ _ _, b, hb => by cases List.mem_singleton.mp hb; exact ⟨m, h0, _, d, rfl⟩
theorem Trs.mem : ∀ {vs : List V} {ss : List Sl} {As : List Addr}, Trs K H0 M H vs ss As → ∀ b ∈ As, M b = none ∧ H0 b = none ∧ ∃ o, H b = some o ∧ trO o = true
  | _, _, _, .nil, b, hb => by cases hb
  | _, _, _, .cons h r, b, hb => (List.mem_append.mp hb).elim (Tr.mem h b) (Trs.mem r b)
end
mutual
/-- a tree becomes shared -/
theorem Tr.rep (sm : Same M M') : ∀ {v : V} {s : Sl} {As : List Addr}, Tr K H0 M H v s As → (∀ b ∈ As, M' b = H b) → Rep K M' v s.pv
  | _, _, _, .sh r, _ => Rep.mono sm r
  | _, _, _, .own _ _ h r, k => .lst (.of ((k _ (List.mem_singleton.mpr rfl)).trans h)) (Reps.mono sm r)
  | _, _, _, .nst _ _ h r, k => .lst (.of ((k _ List.mem_cons_self).trans h)) (Trs.rep sm r fun b hb => k b (List.mem_cons_of_mem _ hb))
  | _, _, _, .dK _ _ h e r, k => .dK ((k _ (List.mem_singleton.mpr rfl)).trans h) e (Reps.mono sm r)
  | _, _, _, .dT _ _ h e r, k => .dT ((k _ (List.mem_singleton.mpr rfl)).trans h) e (Reps.mono sm r)
  | _, _, _, .ins _ _ _ _ h d c e r, k =>
    .obj ((k _ List.mem_cons_self).trans h) ((k _ (List.mem_cons_of_mem _ List.mem_cons_self)).trans d) c e (Trs.rep sm r fun b hb => k b (List.mem_cons_of_mem _ (List.mem_cons_of_mem _ hb)))
  | _, _, _, .tpl h _ _ d r0 r r2, k =>
    .tup (sm _ _ h) (Reps.append (Reps.mono sm r0) (.cons (.lst (.of ((k _ (List.mem_singleton.mpr rfl)).trans d)) (Reps.mono sm r)) (Reps.mono sm r2)))
theorem Trs.rep (sm : Same M M') : ∀ {vs : List V} {ss : List Sl} {As : List Addr}, Trs K H0 M H vs ss As → (∀ b ∈ As, M' b = H b) → Reps K M' vs (Sl.pvs ss)
  | _, _, _, .nil, _ => .nil
  | _, _, _, .cons h r, k => .cons (Tr.rep sm h fun b hb => k b (List.mem_append_left _ hb)) (Trs.rep sm r fun b hb => k b (List.mem_append_right _ hb))
end
mutual
/-- a flat tree leans on the tuples alone -/
theorem Tr.flatMono (sm : ∀ b o, M b = some o → tupH o = true → M' b = some o) : ∀ {v : V} {s : Sl} {As : List Addr}, s.flat = true → Tr K H0 M H v s As → (∀ b ∈ As, M' b = none) → Tr K H0 M' H v s As
  | _, _, _, f, .sh r, _ => .sh (Rep.flatMono sm (by simpa [Sl.flat] using f) r)
  | _, _, _, f, .own _ h0 h r, k => .own (k _ (List.mem_singleton.mpr rfl)) h0 h (Reps.flatMono sm (by simpa [Sl.flat] using f) r)
  | _, _, _, f, .nst _ h0 h r, k => .nst (k _ List.mem_cons_self) h0 h (Trs.flatMono sm (by simpa [Sl.flat] using f) r fun b hb => k b (List.mem_cons_of_mem _ hb))
  | _, _, _, f, .dK _ h0 h e r, k => .dK (k _ (List.mem_singleton.mpr rfl)) h0 h e (Reps.flatMono sm (by simpa [Sl.flat] using f) r)
  | _, _, _, f, .dT _ h0 h e r, k => .dT (k _ (List.mem_singleton.mpr rfl)) h0 h e (Reps.flatMono sm (by simpa [Sl.flat] using f) r)
  | _, _, _, f, .ins _ h0 _ h2 h d c e r, k =>
    .ins (k _ List.mem_cons_self) h0 (k _ (List.mem_cons_of_mem _ List.mem_cons_self)) h2 h d c e (Trs.flatMono sm (by simpa [Sl.flat] using f) r fun b hb => k b (List.mem_cons_of_mem _ (List.mem_cons_of_mem _ hb)))
  | _, _, _, f, .tpl h _ h0 d r0 r r2, k => by
    simp only [Sl.flat, Bool.and_eq_true] at f
    exact .tpl (sm _ _ h rfl) (k _ (List.mem_singleton.mpr rfl)) h0 d (Reps.flatMono sm f.1 r0) (Reps.flatMono sm f.2.1 r) (Reps.flatMono sm f.2.2 r2)
theorem Trs.flatMono (sm : ∀ b o, M b = some o → tupH o = true → M' b = some o) : ∀ {vs : List V} {ss : List Sl} {As : List Addr}, Sl.flats ss = true → Trs K H0 M H vs ss As → (∀ b ∈ As, M' b = none) → Trs K H0 M' H vs ss As
  | _, _, _, _, .nil, _ => .nil
  | _, _, _, f, .cons h r, k => by
    simp only [Sl.flats, Bool.and_eq_true] at f
    exact .cons (Tr.flatMono sm f.1 h fun b hb => k b (List.mem_append_left _ hb)) (Trs.flatMono sm f.2 r fun b hb => k b (List.mem_append_right _ hb))
end
theorem Trs.append : ∀ {vs ws : List V} {ss ts : List Sl} {A B : List Addr}, Trs K H0 M H vs ss A → Trs K H0 M H ws ts B → Trs K H0 M H (vs ++ ws) (ss ++ ts) (A ++ B)
  | _, _, _, _, _, _, .nil, r => r
  | _, _, _, _, _, _, .cons h t, r => by
    have := Trs.cons h (Trs.append t r)
    rw [← List.append_assoc] at this
    exact this
theorem Trs.split : ∀ {ss ts : List Sl} {vs : List V} {As : List Addr}, Trs K H0 M H vs (ss ++ ts) As → ∃ v1 v2 A B, vs = v1 ++ v2 ∧ As = A ++ B ∧ v1.length = ss.length ∧ Trs K H0 M H v1 ss A ∧ Trs K H0 M H v2 ts B
  | [], ts, vs, As, h => ⟨[], vs, [], As, rfl, rfl, rfl, .nil, h⟩
  | s :: ss, ts, _, _, .cons h r => by
    obtain ⟨v1, v2, A, B, rfl, rfl, hl, h1, h2⟩ := Trs.split r
    exact ⟨_ :: v1, v2, _ ++ A, B, rfl, by rw [List.append_assoc], by simp [hl], .cons h h1, h2⟩
/-- one of the trees -/
theorem Trs.get {n : Nat} : ∀ {vs : List V} {ss : List Sl} {As : List Addr} {s : Sl}, Trs K H0 M H vs ss As → ss[n]? = some s →
    ∃ v A B C, vs[n]? = some v ∧ As = A ++ (B ++ C) ∧ Tr K H0 M H v s B ∧
      ∀ {H0' M' H' : Hp} {v' : V} {s' : Sl} {B' : List Addr}, Same M M' → (∀ b ∈ A ++ C, M' b = none ∧ H0' b = none ∧ H' b = H b) → Tr K H0' M' H' v' s' B' → Trs K H0' M' H' (vs.set n v') (ss.set n s') (A ++ (B' ++ C)) := by
  induction n with
  | zero =>
    intro vs ss As s h e
    cases h with
    | nil => cases e
    | cons h r =>
      cases e
      refine ⟨_, [], _, _, rfl, rfl, h, fun sm k t => ?_⟩
      have := Trs.cons t (r.frame sm fun b hb => k b (by simpa using hb))
      exact this
  | succ n ih =>
    intro vs ss As s h e
    cases h with
    | nil => cases e
    | @cons w s0 vs ss A0 B0 h r =>
      obtain ⟨v, A, B, C, e1, rfl, t, k⟩ := ih r (s := s) (by simpa using e)
      refine ⟨v, A0 ++ A, B, C, by simpa using e1, by simp [List.append_assoc], t, fun sm q t' => ?_⟩
      have := Trs.cons (h.frame sm fun b hb => q b (by simp [hb])) (k sm (fun b hb => q b (by
        rcases List.mem_append.mp hb with z | z
        · simp [z]
        · simp [z])) t')
      simpa [List.append_assoc] using this
end

section
variable {K : PySem.W.Frag} {H0 M H : Hp}
mutual
/-- the addresses of a tree are told by the heap -/
theorem Tr.addrs_uniq : ∀ {v : V} {s : Sl} {A A' : List Addr}, Tr K H0 M H v s A → Tr K H0 M H v s A' → A = A'
  | _, _, _, _, .sh _, h => by cases h; rfl
  | _, _, _, _, .own _ _ _ _, h => by cases h; rfl
  | _, _, _, _, .nst _ _ hh r, h => by
    cases h with
    | nst _ _ hh' r' =>
      rw [hh] at hh'; cases hh'
      rw [Trs.addrs_uniq r r']
  | _, _, _, _, .dK _ _ _ _ _, h => by cases h; rfl
  | _, _, _, _, .dT _ _ _ _ _, h => by cases h; rfl
  | _, _, _, _, .ins _ _ _ _ hh _ _ _ r, h => by
    cases h with
    | ins _ _ _ _ hh' _ _ _ r' =>
      rw [hh] at hh'; cases hh'
      rw [Trs.addrs_uniq r r']
  | _, _, _, _, .tpl hh _ _ _ r0 _ _, h => by
    cases h with
    | tpl hh' _ _ _ r0' _ _ =>
      rw [hh] at hh'
      simp only [Option.some.injEq, HO.tup.injEq] at hh'
      obtain ⟨_, q⟩ := List.append_inj hh' (r0.length.trans r0'.length.symm)
      cases q
      rfl
theorem Trs.addrs_uniq : ∀ {vs : List V} {ss : List Sl} {A A' : List Addr}, Trs K H0 M H vs ss A → Trs K H0 M H vs ss A' → A = A'
  | _, _, _, _, .nil, h => by cases h; rfl
  | _, _, _, _, .cons a r, h => by
    cases h with
    | cons a' r' => rw [Tr.addrs_uniq a a', Trs.addrs_uniq r r']
end
end
/-! ### what lies along a path -/
inductive Nd (H : Hp) : V → List Nat → V → Prop
  | nil {v : V} : Nd H v [] v
  | lst {a : Addr} {vs : List V} {n : Nat} {w v : V} {π : List Nat} : H a = some (.lst vs) → vs[n]? = some w → Nd H w π v → Nd H (.ref a) (n :: π) v
  | ins {a C dx : Addr} {fs : List (Str × V)} {n : Nat} {w v : V} {π : List Nat} : H a = some (.ins C dx fs) → (fs.map (·.2))[n]? = some w → Nd H w π v → Nd H (.ref a) (n :: π) v
theorem Nd.uniq {H : Hp} {v : V} {π : List Nat} {w : V} (h : Nd H v π w) : ∀ {u : V}, Nd H v π u → w = u := by
  induction h with
  | nil => intro u g; cases g; rfl
  | lst h1 h2 _ ih =>
    intro u g
    cases g with
    | lst g1 g2 g3 =>
      rw [h1] at g1; cases g1
      rw [h2] at g2; cases g2
      exact ih g3
    | ins g1 _ _ => rw [h1] at g1; cases g1
  | ins h1 h2 _ ih =>
    intro u g
    cases g with
    | lst g1 _ _ => rw [h1] at g1; cases g1
    | ins g1 g2 g3 =>
      rw [h1] at g1; cases g1
      rw [h2] at g2; cases g2
      exact ih g3
theorem Nd.monoT {H H' : Hp} (s : ∀ b o, H b = some o → trO o = true → H' b = some o) {v : V} {π : List Nat} {w : V} (h : Nd H v π w) : Nd H' v π w := by
  induction h with
  | nil => exact .nil
  | lst h1 h2 _ ih => exact .lst (s _ _ h1 rfl) h2 ih
  | ins h1 h2 _ ih => exact .ins (s _ _ h1 rfl) h2 ih
theorem Nd.mono {H H' : Hp} (s : Same H H') {v : V} {π : List Nat} {w : V} (h : Nd H v π w) : Nd H' v π w := by
  induction h with
  | nil => exact .nil
  | lst h1 h2 _ ih => exact .lst (s _ _ h1) h2 ih
  | ins h1 h2 _ ih => exact .ins (s _ _ h1) h2 ih
theorem Nd.snoc {H : Hp} {v : V} {π : List Nat} {w : V} (h : Nd H v π w) : ∀ {n : Nat} {u : V}, Nd H w [n] u → Nd H v (π ++ [n]) u := by
  induction h with
  | nil => intro n u g; exact g
  | lst h1 h2 _ ih => intro n u g; exact .lst h1 h2 (ih g)
  | ins h1 h2 _ ih => intro n u g; exact .ins h1 h2 (ih g)

section
variable {K : PySem.W.Frag} {H0 M H : Hp}
theorem perm_zip {α : Type} (A B C : List α) : (A ++ (B ++ C)).Perm (B ++ (A ++ C)) := by
  rw [← List.append_assoc, ← List.append_assoc]
  exact List.Perm.append_right C List.perm_append_comm
theorem set_same {α : Type} {l : List α} {n : Nat} {x : α} (h : l[n]? = some x) : l.set n x = l := by
  apply List.ext_getElem?
  intro i
  by_cases e : n = i
  · subst e
    rw [List.getElem?_set_self (List.getElem?_eq_some_iff.mp h).1, h]
  · rw [List.getElem?_set_ne e]
/-- a tree, open at a path -/
theorem Tr.zip : ∀ {π : List Nat} {v : V} {s s1 : Sl} {As : List Addr}, Tr K H0 M H v s As → s.sub π = some s1 →
    ∃ v1 A1 R, As.Perm (A1 ++ R) ∧ Tr K H0 M H v1 s1 A1 ∧ Nd H v π v1 ∧
      ∀ {H0' M' H' : Hp} {s' : Sl} {A' : List Addr}, Same M M' → (∀ b ∈ R, M' b = none ∧ H0' b = none ∧ H' b = H b) → Tr K H0' M' H' v1 s' A' → ∃ As', As'.Perm (A' ++ R) ∧ Tr K H0' M' H' v (s.put π s') As'
  | [], v, s, s1, As, h, e => by
    have e' : s = s1 := by cases s <;> simpa [Sl.sub] using e
    subst e'
    refine ⟨v, As, [], by simp, h, .nil, fun sm k t => ⟨_, by rw [List.append_nil], ?_⟩⟩
    cases s <;> exact t
  | n :: π, _, _, s1, _, .sh _, e => by simp [Sl.sub] at e
  | n :: π, _, _, s1, _, .own _ _ _ _, e => by simp [Sl.sub] at e
  | n :: π, _, _, s1, _, .dK _ _ _ _ _, e => by simp [Sl.sub] at e
  | n :: π, _, _, s1, _, .dT _ _ _ _ _, e => by simp [Sl.sub] at e
  | n :: π, _, _, s1, _, .tpl _ _ _ _ _ _ _, e => by simp [Sl.sub] at e
  | n :: π, _, .nst ss, s1, _, .nst (a := a) m h0 h r, e => by
    simp only [Sl.sub, Option.bind_eq_some_iff] at e
    obtain ⟨t, e1, e2⟩ := e
    obtain ⟨w, A, B, C, g1, rfl, g2, g3⟩ := r.get e1
    obtain ⟨v1, A1, R, p, t1, nd, k⟩ := Tr.zip g2 e2
    refine ⟨v1, A1, a :: (R ++ (A ++ C)), ?_, t1, .lst h g1 nd, fun {H0' M' H' s' A'} sm q t' => ?_⟩
    · refine ((perm_zip A B C).cons a).trans (((p.append_right (A ++ C)).cons a).trans ?_)
      rw [List.append_assoc]
      exact List.perm_middle.symm
    · have qa := q a List.mem_cons_self
      obtain ⟨As', p', t2⟩ := k sm (fun b hb => q b (List.mem_cons_of_mem _ (List.mem_append_left _ hb))) t'
      have t3 := g3 sm (fun b hb => q b (List.mem_cons_of_mem _ (List.mem_append_right _ hb))) t2
      refine ⟨a :: (A ++ (As' ++ C)), ?_, ?_⟩
      · refine ((perm_zip A As' C).cons a).trans (((p'.append_right (A ++ C)).cons a).trans ?_)
        rw [List.append_assoc]
        exact List.perm_middle.symm
      · simp only [Sl.put, e1]
        refine .nst qa.1 qa.2.1 (qa.2.2.trans h) ?_
        have e3 := set_same g1
        rw [e3] at t3
        exact t3
  | n :: π, _, .ins c ns ss, s1, _, .ins (a := a) (dx := dx) (fs := fs) m h0 m2 h2 h d cl en r, e => by
    simp only [Sl.sub, Option.bind_eq_some_iff] at e
    obtain ⟨t, e1, e2⟩ := e
    obtain ⟨w, A, B, C, g1, rfl, g2, g3⟩ := r.get e1
    obtain ⟨v1, A1, R, p, t1, nd, k⟩ := Tr.zip g2 e2
    refine ⟨v1, A1, a :: dx :: (R ++ (A ++ C)), ?_, t1, .ins h g1 nd, fun {H0' M' H' s' A'} sm q t' => ?_⟩
    · refine (((perm_zip A B C).cons dx).cons a).trans ((((p.append_right (A ++ C)).cons dx).cons a).trans ?_)
      rw [List.append_assoc]
      exact (List.perm_middle.symm.cons a).trans List.perm_middle.symm
    · have qa := q a List.mem_cons_self
      have qd := q dx (List.mem_cons_of_mem _ List.mem_cons_self)
      obtain ⟨As', p', t2⟩ := k sm (fun b hb => q b (List.mem_cons_of_mem _ (List.mem_cons_of_mem _ (List.mem_append_left _ hb)))) t'
      have t3 := g3 sm (fun b hb => q b (List.mem_cons_of_mem _ (List.mem_cons_of_mem _ (List.mem_append_right _ hb)))) t2
      refine ⟨a :: dx :: (A ++ (As' ++ C)), ?_, ?_⟩
      · refine (((perm_zip A As' C).cons dx).cons a).trans ((((p'.append_right (A ++ C)).cons dx).cons a).trans ?_)
        rw [List.append_assoc]
        exact (List.perm_middle.symm.cons a).trans List.perm_middle.symm
      · simp only [Sl.put, e1]
        refine .ins qa.1 qa.2.1 qd.1 qd.2.1 (qa.2.2.trans h) (qd.2.2.trans d) cl en ?_
        have e3 := set_same g1
        rw [e3] at t3
        exact t3
end
end Me
/-! Me2: what a frame holds: trees that stand apart. -/
namespace Me
open PySem PySem.Spec PyProof.Rows L2
open NdefX (TabsN NTab TabN)
open LamX (CodeO TabB ExtN)
variable [Reg]

noncomputable abbrev TrE (K : PySem.W.Frag) (H0 M H : Hp) (E : List (V × Sl)) (As : List Addr) : Prop := Trs K H0 M H (E.map (·.1)) (E.map (·.2)) As
section
variable {K : PySem.W.Frag} {H0 H0' M M' H H' : Hp} {E E' E1 E2 : List (V × Sl)} {As A B : List Addr}
theorem TrE.cons {v : V} {s : Sl} (h : Tr K H0 M H v s A) (r : TrE K H0 M H E B) : TrE K H0 M H ((v, s) :: E) (A ++ B) := Trs.cons h r
theorem TrE.uncons {v : V} {s : Sl} (h : TrE K H0 M H ((v, s) :: E) As) : ∃ A B, As = A ++ B ∧ Tr K H0 M H v s A ∧ TrE K H0 M H E B := by
  cases h with
  | cons a b => exact ⟨_, _, rfl, a, b⟩
theorem TrE.nil : TrE K H0 M H [] [] := Trs.nil
theorem TrE.one {v : V} {s : Sl} (h : Tr K H0 M H v s A) : TrE K H0 M H [(v, s)] A := by
  have := TrE.cons h (TrE.nil (K := K) (H0 := H0) (M := M) (H := H))
  rwa [List.append_nil] at this
theorem TrE.append (h : TrE K H0 M H E A) (r : TrE K H0 M H E' B) : TrE K H0 M H (E ++ E') (A ++ B) := by
  unfold TrE
  rw [List.map_append, List.map_append]
  exact Trs.append h r
theorem TrE.split : ∀ {E E' : List (V × Sl)} {As : List Addr}, TrE K H0 M H (E ++ E') As → ∃ A B, As = A ++ B ∧ TrE K H0 M H E A ∧ TrE K H0 M H E' B
  | [], E', As, h => ⟨[], As, rfl, .nil, h⟩
  | (v, s) :: E, E', As, h => by
    obtain ⟨A, B, rfl, a, b⟩ := TrE.uncons (E := E ++ E') h
    obtain ⟨A1, B1, rfl, c, d⟩ := TrE.split b
    exact ⟨A ++ A1, B1, by rw [List.append_assoc], TrE.cons a c, d⟩
theorem TrE.perm (p : E.Perm E') : ∀ {As : List Addr}, TrE K H0 M H E As → ∃ As', As.Perm As' ∧ TrE K H0 M H E' As' := by
  induction p with
  | nil => intro As h; exact ⟨As, .refl _, h⟩
  | cons x p ih =>
    intro As h
    obtain ⟨v, s⟩ := x
    obtain ⟨A, B, rfl, a, b⟩ := TrE.uncons h
    obtain ⟨B', q, b'⟩ := ih b
    exact ⟨A ++ B', q.append_left A, TrE.cons a b'⟩
  | swap x y l =>
    intro As h
    obtain ⟨v, s⟩ := x
    obtain ⟨w, t⟩ := y
    obtain ⟨A, B, rfl, a, b⟩ := TrE.uncons h
    obtain ⟨C, D, rfl, c, d⟩ := TrE.uncons b
    exact ⟨C ++ (A ++ D), by rw [← List.append_assoc, ← List.append_assoc]; exact List.Perm.append_right D List.perm_append_comm, TrE.cons c (TrE.cons a d)⟩
  | trans _ _ i1 i2 =>
    intro As h
    obtain ⟨A1, p1, h1⟩ := i1 h
    obtain ⟨A2, p2, h2⟩ := i2 h1
    exact ⟨A2, p1.trans p2, h2⟩
theorem TrE.sublist (p : List.Sublist E' E) : ∀ {As : List Addr}, TrE K H0 M H E As → ∃ As', List.Sublist As' As ∧ TrE K H0 M H E' As' := by
  induction p with
  | slnil => intro As h; exact ⟨As, .refl _, h⟩
  | cons x p ih =>
    intro As h
    obtain ⟨v, s⟩ := x
    obtain ⟨A, B, rfl, a, b⟩ := TrE.uncons h
    obtain ⟨B', q, b'⟩ := ih b
    exact ⟨B', q.trans (List.sublist_append_right _ _), b'⟩
  | cons_cons x p ih =>
    intro As h
    obtain ⟨v, s⟩ := x
    obtain ⟨A, B, rfl, a, b⟩ := TrE.uncons h
    obtain ⟨B', q, b'⟩ := ih b
    exact ⟨A ++ B', q.append_left A, TrE.cons a b'⟩
theorem TrE.mem (h : TrE K H0 M H E As) : ∀ b ∈ As, M b = none ∧ H0 b = none ∧ ∃ o, H b = some o ∧ trO o = true := Trs.mem h
theorem TrE.get (h : TrE K H0 M H E As) {e : V × Sl} (he : e ∈ E) : ∃ A, (∀ b ∈ A, b ∈ As) ∧ Tr K H0 M H e.1 e.2 A := by
  obtain ⟨X, Y, rfl⟩ := List.append_of_mem he
  obtain ⟨A, B, rfl, a, b⟩ := TrE.split h
  obtain ⟨C, D, rfl, c, d⟩ := TrE.uncons b
  exact ⟨C, fun b hb => by simp [hb], c⟩
end

/-- H0: what was there at the entry and stays; M0: what the entry may read; M: what may be read now (shared, never changed) -/
structure Hyp (K : PySem.W.Frag) (H0 M0 M H : Hp) (E : List (V × Sl)) : Prop where
  sub : Same M H
  low : Same M0 M
  new : ∀ b o, M b = some o → M0 b = some o ∨ H0 b = none ∨ trO o = false
  old : Same H0 H
  tab : TabsN (Reg.T K) H
  nt0 : ∀ b o, H0 b = some o → ntO o = true
  ntM : ∀ b o, M b = some o → ntO o = true
  ok : ∃ As, TrE K H0 M H E As ∧ As.Nodup
/-- the tables stand where the trees are not -/
theorem tabs_keep {K : PySem.W.Frag} {H H' : Hp} (t : TabsN (Reg.T K) H) (k : ∀ b o, H b = some o → trO o = false → H' b = some o) : TabsN (Reg.T K) H' := fun p hp => by
  obtain ⟨ps, h1, h2, h3⟩ := t p hp
  refine ⟨ps, k _ _ h1 rfl, h2, fun pos cv hc => ?_⟩
  obtain ⟨c, e1, e2⟩ := h3 pos cv hc
  exact ⟨c, e1, k _ _ e2 rfl⟩

noncomputable def TrOk (K : PySem.W.Frag) (H0 M H : Hp) (v : V) (s : Sl) : Prop := ∃ As, Tr K H0 M H v s As
noncomputable def SlOk (K : PySem.W.Frag) (H0 M H : Hp) (v : V) (s : Sl) : Prop := TrOk K H0 M H v s ∧ s.isTpl = false
section
variable {K : PySem.W.Frag} {H0 M0 M H : Hp} {E E' E1 E2 : List (V × Sl)}
theorem Hyp.perm (h : Hyp K H0 M0 M H E) (p : E.Perm E') : Hyp K H0 M0 M H E' := by
  obtain ⟨As, t, n⟩ := h.ok
  obtain ⟨As', q, t'⟩ := t.perm p
  exact ⟨h.sub, h.low, h.new, h.old, h.tab, h.nt0, h.ntM, As', t', q.nodup_iff.mp n⟩
theorem Hyp.sublist (h : Hyp K H0 M0 M H E) (p : List.Sublist E' E) : Hyp K H0 M0 M H E' := by
  obtain ⟨As, t, n⟩ := h.ok
  obtain ⟨As', q, t'⟩ := t.sublist p
  exact ⟨h.sub, h.low, h.new, h.old, h.tab, h.nt0, h.ntM, As', t', q.nodup n⟩
theorem Hyp.get (h : Hyp K H0 M0 M H E) {e : V × Sl} (he : e ∈ E) : TrOk K H0 M H e.1 e.2 := by
  obtain ⟨As, t, n⟩ := h.ok
  obtain ⟨A, _, q⟩ := t.get he
  exact ⟨A, q⟩
theorem nodup_disj {α : Type} {A B : List α} (h : (A ++ B).Nodup) {b : α} (ha : b ∈ A) (hb : b ∈ B) : False :=
  (List.nodup_append.mp h).2.2 b ha b hb rfl
/-- some of the trees are changed, all at once -/
theorem Hyp.openAt (h : Hyp K H0 M0 M H (E1 ++ E2)) : ∃ A1, TrE K H0 M H E1 A1 ∧ A1.Nodup ∧ ∀ {M' H' : Hp} {E1' : List (V × Sl)} {A1' : List Addr}, Same M M' → Same M' H' → (∀ b o, M' b = some o → M b = some o ∨ (H b = none ∨ b ∈ A1) ∧ ntO o = true) →
    (∀ b o, b ∉ A1 → H b = some o → H' b = some o) → TrE K H0 M' H' E1' A1' → A1'.Nodup → (∀ b ∈ A1', b ∈ A1 ∨ H b = none) → Hyp K H0 M0 M' H' (E1' ++ E2) := by
  obtain ⟨As, t, n⟩ := h.ok
  obtain ⟨A1, A2, rfl, t1, t2⟩ := t.split
  refine ⟨A1, t1, (List.nodup_append.mp n).1, fun {M' H' E1' A1'} sm sh nw ke t1' n1 fr => ⟨sh, h.low.trans sm, fun b o e => ?_, fun b o e => ?_, tabs_keep h.tab fun b o e f => ke b o (fun z => ?_) e, h.nt0, fun b o e => ?_, A1' ++ A2, t1'.append ?_, ?_⟩⟩
  · rcases nw b o e with z | ⟨z | z, _⟩
    · exact h.new b o z
    · exact .inr (.inl (Same.free h.old z))
    · exact .inr (.inl (t1.mem b z).2.1)
  · refine ke b o (fun hb => ?_) (h.old b o e)
    have := (t1.mem b hb).2.1
    rw [this] at e; cases e
  · obtain ⟨_, _, o', m3, m4⟩ := t1.mem b z
    rw [e] at m3; cases m3
    rw [f] at m4; cases m4
  · rcases nw b o e with z | ⟨_, z⟩
    · exact h.ntM b o z
    · exact z
  · refine Trs.frame sm t2 fun b hb => ?_
    obtain ⟨m1, m2, o, m3, m4⟩ := t2.mem b hb
    refine ⟨?_, m2, ?_⟩
    · cases z : M' b with
      | none => rfl
      | some o' =>
        rcases nw b o' z with q | ⟨q | q, _⟩
        · rw [m1] at q; cases q
        · rw [m3] at q; cases q
        · exact (nodup_disj n q hb).elim
    · rw [m3]
      exact ke b o (fun q => (nodup_disj n q hb).elim) m3
  · refine List.nodup_append.mpr ⟨n1, (List.nodup_append.mp n).2.1, fun x hx y hy e => ?_⟩
    subst e
    obtain ⟨m1, m2, o, m3, m4⟩ := t2.mem x hy
    rcases fr x hx with q | q
    · exact nodup_disj n q hy
    · rw [m3] at q; cases q
theorem Hyp.push (h : Hyp K H0 M0 M H E) {v : V} {p : PV} (r : Rep K M v p) : Hyp K H0 M0 M H (E ++ [(v, .sh p)]) := by
  obtain ⟨As, t, n⟩ := h.ok
  refine ⟨h.sub, h.low, h.new, h.old, h.tab, h.nt0, h.ntM, As ++ [], t.append (TrE.one (.sh r)), by rw [List.append_nil]; exact n⟩
theorem upd_same_at {H : Hp} {a b : Addr} {o u : HO} (h : upd H a o b = some u) : (b = a ∧ u = o) ∨ (b ≠ a ∧ H b = some u) := by
  by_cases e : b = a
  · subst e; rw [upd_same] at h; cases h; exact .inl ⟨rfl, rfl⟩
  · rw [upd_ne e] at h; exact .inr ⟨e, h⟩
theorem same_new {H : Hp} {p : Addr} {o : HO} (h : H p = none) : Same H (upd H p o) := fun b u e => by
  rw [upd_ne (ne_of_none e h)]; exact e
/-- a new tuple -/
theorem Hyp.allocT (h : Hyp K H0 M0 M H E) {p : Addr} {vs : List V} {ps : List PV} (hp : H p = none) (r : Reps K M vs ps) :
    Hyp K H0 M0 (upd M p (.tup vs)) (upd H p (.tup vs)) (E ++ [(.ref p, .sh (.tup ps))]) := by
  have mp : M p = none := Same.free h.sub hp
  have sM : Same M (upd M p (.tup vs)) := same_new mp
  obtain ⟨A1, t, n, k⟩ := Hyp.openAt (E1 := []) (E2 := E) h
  have base : Hyp K H0 M0 (upd M p (.tup vs)) (upd H p (.tup vs)) ([] ++ E) := by
    refine k sM (fun b o e => ?_) (fun b o e => ?_) (fun b o _ e => same_new hp b o e) .nil .nil (fun b hb => by cases hb)
    · rcases upd_same_at e with ⟨rfl, rfl⟩ | ⟨ne, e⟩
      · rw [upd_same]
      · rw [upd_ne ne]; exact h.sub _ _ e
    · rcases upd_same_at e with ⟨rfl, rfl⟩ | ⟨ne, e⟩
      · exact .inr ⟨.inl hp, rfl⟩
      · exact .inl e
  exact Hyp.push base (.tup upd_same (Reps.mono sM r))
/-- new things that are owned -/
theorem Hyp.alloc {H' : Hp} {v : V} {s : Sl} {A : List Addr} (h : Hyp K H0 M0 M H E) (sm : Same H H') (t : Tr K H0 M H' v s A) (n : A.Nodup) (fr : ∀ b ∈ A, H b = none) : Hyp K H0 M0 M H' (E ++ [(v, s)]) := by
  obtain ⟨A1, t1, n1, k⟩ := Hyp.openAt (E1 := []) (E2 := E) h
  have := k (M' := M) (H' := H') (E1' := [(v, s)]) (A1' := A) (Same.refl M) (h.sub.trans sm) (fun b o e => .inl e) (fun b o _ e => sm b o e) (TrE.one t) n (fun b hb => .inr (fr b hb))
  exact this.perm List.perm_append_comm
/-- a new list, owned -/
theorem Hyp.allocL (h : Hyp K H0 M0 M H E) {p : Addr} {vs : List V} {ps : List PV} (hp : H p = none) (r : Reps K M vs ps) :
    Hyp K H0 M0 M (upd H p (.lst vs)) (E ++ [(.ref p, .own ps)]) :=
  h.alloc (same_new hp) (.own (Same.free h.sub hp) (Same.free h.old hp) upd_same r) (by simp) (fun b hb => by cases List.mem_singleton.mp hb; exact hp)
/-- a tree becomes shared -/
theorem Hyp.freeze {v : V} {s : Sl} (h : Hyp K H0 M0 M H ((v, s) :: E)) : ∃ M', Same M M' ∧ Hyp K H0 M0 M' H ((v, .sh s.pv) :: E) := by
  classical
  obtain ⟨A1, t, n, k⟩ := Hyp.openAt (E1 := [(v, s)]) (E2 := E) h
  obtain ⟨A, B, rfl, t1, t2⟩ := t.uncons
  cases t2
  rw [List.append_nil] at n k
  have hs : Same M (fun b => if b ∈ A then H b else M b) := fun b o e => by
    have : b ∉ A := fun hb => by
      have := (Tr.mem t1 b hb).1
      rw [this] at e; cases e
    show (if b ∈ A then H b else M b) = _
    rw [if_neg this]; exact e
  refine ⟨fun b => if b ∈ A then H b else M b, hs, ?_⟩
  refine k (E1' := [(v, .sh s.pv)]) (A1' := []) hs (fun b o e => ?_) (fun b o e => ?_) (fun b o _ e => e) (TrE.one (.sh (Tr.rep hs t1 fun b hb => if_pos hb))) .nil (fun b hb => by cases hb)
  · by_cases hb : b ∈ A
    · exact (if_pos hb).symm.trans e
    · exact h.sub b o ((if_neg hb).symm.trans e)
  · by_cases hb : b ∈ A
    · obtain ⟨_, _, o', m3, m4⟩ := Tr.mem t1 b hb
      have e' := (if_pos hb).symm.trans e
      rw [m3] at e'; cases e'
      exact .inr ⟨.inr hb, trO_nt m4⟩
    · exact .inl ((if_neg hb).symm.trans e)
/-- behind a call: EL was lent, B was shown, ER stood aside -/
theorem Hyp.back {EL ER E1 : List (V × Sl)} {AL : List Addr} {B : Addr → Prop} {H0c Mc M1 H1 : Hp} (h : Hyp K H0 M0 M H (EL ++ ER)) (tL : ∀ {A}, TrE K H0 M H EL A → A = AL ∨ ∀ b, b ∈ A ↔ b ∈ AL)
    (hB : ∀ b, B b → M b = none ∧ ∃ o, H b = some o ∧ trO o = true) (h0 : ∀ b o, b ∉ AL → H b = some o → ntO o = true → H0c b = some o) (hm1 : ∀ b, B b → Mc b = H b) (hm2 : ∀ b, ¬ B b → Mc b = M b)
    (fl : (∀ b, ¬ B b) ∨ Sl.flats (E1.map (·.2)) = true) (c : Hyp K H0c Mc M1 H1 E1) : ∃ M2, Same M M2 ∧ Hyp K H0 M0 M2 H1 (E1 ++ ER) := by
  classical
  obtain ⟨As, t, n⟩ := h.ok
  obtain ⟨A, AR, rfl, tl, tr⟩ := t.split
  have hA : ∀ b, b ∈ A ↔ b ∈ AL := by
    rcases tL tl with rfl | q
    · exact fun b => .rfl
    · exact q
  -- what the entry did not keep is lent, or a table, or new
  have lent : ∀ b, H0c b = none → H0 b = none := fun b e => by
    cases hb : H b with
    | none => exact Same.free h.old hb
    | some o' =>
      by_cases z : b ∈ AL
      · exact (tl.mem b ((hA b).mpr z)).2.1
      · cases q : ntO o' with
        | true => rw [h0 b o' z hb q] at e; cases e
        | false =>
          cases r : H0 b with
          | none => rfl
          | some u =>
            have r2 := h.old b u r
            rw [hb] at r2; cases r2
            rw [h.nt0 b o' r] at q; cases q
  refine ⟨fun b => if B b then none else M1 b, ?_⟩
  generalize hM2 : (fun b => if B b then none else M1 b : Hp) = M2
  have m2n : ∀ b, B b → M2 b = none := fun b hb' => by rw [← hM2]; exact if_pos hb'
  have m2e : ∀ b, ¬ B b → M2 b = M1 b := fun b hb' => by rw [← hM2]; exact if_neg hb'
  have sMM : Same M M2 := fun b o e => by
    have nb : ¬ B b := fun z => by rw [(hB b z).1] at e; cases e
    rw [m2e b nb]
    exact c.low _ _ (by rw [hm2 b nb]; exact e)
  obtain ⟨A1, t1, n1⟩ := c.ok
  refine ⟨sMM, fun b o e => ?_, h.low.trans sMM, fun b o e => ?_, fun b o e => ?_, c.tab, h.nt0, fun b o e => ?_, A1 ++ AR, TrE.append ?_ ?_, ?_⟩
  · by_cases z : B b
    · rw [m2n b z] at e; cases e
    · rw [m2e b z] at e; exact c.sub _ _ e
  · by_cases z : B b
    · rw [m2n b z] at e; cases e
    · rw [m2e b z] at e
      rcases c.new _ _ e with q | q | q
      · rw [hm2 b z] at q; exact h.new _ _ q
      · exact .inr (.inl (lent b q))
      · exact .inr (.inr q)
  · have nb : b ∉ AL := fun z => by
      have := (tl.mem b ((hA b).mpr z)).2.1
      rw [this] at e; cases e
    exact c.old _ _ (h0 b o nb (h.old _ _ e) (h.nt0 b o e))
  · by_cases z : B b
    · rw [m2n b z] at e; cases e
    · rw [m2e b z] at e; exact c.ntM _ _ e
  · have t1' : Trs K H0c M2 H1 (E1.map (·.1)) (E1.map (·.2)) A1 := by
      have mn : ∀ b ∈ A1, M2 b = none := fun b hb => by
        by_cases z : B b
        · exact m2n b z
        · rw [m2e b z]; exact (t1.mem b hb).1
      rcases fl with fl | fl
      · exact Trs.frame (fun b o e => by rw [m2e b (fl b)]; exact e) t1 fun b hb => ⟨mn b hb, (t1.mem b hb).2.1, rfl⟩
      · refine Trs.flatMono (fun b o e it => ?_) fl t1 mn
        by_cases z : B b
        · obtain ⟨o', e', f'⟩ := (hB b z).2
          have := c.low _ _ ((hm1 b z).trans e')
          rw [e] at this; cases this
          rw [trO_tup f'] at it; cases it
        · rw [m2e b z]; exact e
    refine Trs.frame (Same.refl _) t1' fun b hb => ⟨(Trs.mem t1' b hb).1, ?_, rfl⟩
    exact lent b (Trs.mem t1' b hb).2.1
  · refine Trs.frame sMM tr fun b hb => ?_
    obtain ⟨q1, q2, o, q3, q4⟩ := tr.mem b hb
    have nl : b ∉ AL := fun z => nodup_disj n ((hA b).mpr z) hb
    have k0 := h0 b o nl q3 (trO_nt q4)
    have k1 : H1 b = some o := c.old _ _ k0
    refine ⟨?_, q2, ?_⟩
    · by_cases z : B b
      · exact m2n b z
      · rw [m2e b z]
        cases w : M1 b with
        | none => rfl
        | some o' =>
          rcases c.new _ _ w with r | r | r
          · rw [hm2 b z, q1] at r; cases r
          · rw [k0] at r; cases r
          · have := c.sub _ _ w
            rw [k1] at this; cases this
            rw [q4] at r; cases r
    · rw [q3]
      exact k1
  · refine List.nodup_append.mpr ⟨n1, (List.nodup_append.mp n).2.1, fun x hx y hy e => ?_⟩
    subst e
    have q := (t1.mem x hx).2.1
    obtain ⟨q1, q2, o, q3, q4⟩ := tr.mem x hy
    have nl : x ∉ AL := fun z => nodup_disj n ((hA x).mpr z) hy
    rw [h0 x o nl q3 (trO_nt q4)] at q; cases q
end
end Me
/-! Me3: a small language over pure values and owned trees: its expressions and statements, and what they come to. -/
namespace Me
open PySem PySem.Spec PyProof.Rows L2

/-- a target of a for or a comprehension -/
inductive Tg where
  | name (i : Nat) | tup (is : List Nat)
  deriving DecidableEq

mutual
inductive E where
  | var (i : Nat) | non | bl (b : Bool) | int (i : Int) | str (s : Str)
  | glob (x : Str) (p : PV)
  | bin (op : Operator) (a b : E) | neg (a : E)
  | cmp (op : CmpOp) (a b : E) | chain (op op' : CmpOp) (a b c : E)
  | and (a b : E) | or (a b : E) | not (a : E)
  | ife (c : T) (a b : E)
  | ix (a b : E) | slc (a : E) (lo hi : O)
  | tup (es : Es) | lst (es : Es)
  | call (g : Nat) (es : Es) | blt (f : String) (es : Es) | isi (a : E) (ty : String)
  | meth (m : String) (o a : E)
  | comp (elt : E) (tg : Tg) (own : List (Str × Nat)) (it : I) (cd : C)
  | att (o : E) (f : Str) (cs : List Str) | mcall (o : E) (m : Str) (tb : List (Str × Nat)) (es : Es) | lmcall (o : E) (m : Str) (tb : List (Str × Nat)) (es : Es) | new (c : Str) (g : Nat) (es : Es)
  | wall
inductive O where
  | no | some (e : E)
inductive C where
  | yes | on (t : T)
inductive Es where
  | nil | cons (e : E) (es : Es)
/-- a test -/
inductive T where
  | val (e : E) | cmp (op : CmpOp) (a b : E) | chain (op op' : CmpOp) (a b c : E) | and (a b : T) | or (a b : T) | not (a : T)
/-- what is walked -/
inductive I where
  | val (e : E) | range1 (e : E) | enum (e : E) | zip (a b : E)
end
mutual
inductive S where
  | pass | wall | set (i : Nat) (e : E) | expr (e : E) | ret (l : List Nat) (e : E) | retN
  | ife (c : T) (a b : Ss) | for (tg : Tg) (it : I) (b : Ss)
  | app (o : E) (e : E) | stx (o : E) (k e : E) | pop (o : E) | fld (o : E) (f : Str) (cs : List Str) (e : E) | brk
  | raise (c : Str) (e : E)
  | orO (j w : Nat) (o : E)
inductive Ss where
  | nil | cons (s : S) (ss : Ss)
end

/-! ### what leaves all that is borrowed as it is -/
mutual
noncomputable def calmE : E → Bool
  | .bin _ a b => calmE a && calmE b | .neg a => calmE a
  | .cmp _ a b => calmE a && calmE b | .chain _ _ a b c => calmE a && (calmE b && calmE c)
  | .and a b => calmE a && calmE b | .or a b => calmE a && calmE b | .not a => calmE a
  | .ife c a b => calmT c && (calmE a && calmE b)
  | .ix a b => calmE a && calmE b | .slc a lo hi => calmE a && (calmO lo && calmO hi)
  | .tup es => calmEs es | .lst es => calmEs es | .call _ es => calmEs es | .blt _ es => calmEs es | .isi a _ => calmE a
  | .meth _ o a => calmE o && calmE a
  | .comp _ _ _ _ _ => false | .lmcall _ _ _ _ => false
  | .att o _ _ => calmE o | .mcall o _ _ es => calmE o && calmEs es | .new _ _ _ => false
  | _ => true
noncomputable def calmC : C → Bool
  | .yes => true | .on t => calmT t
noncomputable def calmI : I → Bool
  | .val e => calmE e | .range1 e => calmE e | .enum e => calmE e | .zip a b => calmE a && calmE b
noncomputable def calmO : O → Bool
  | .no => true | .some e => calmE e
noncomputable def calmEs : Es → Bool
  | .nil => true | .cons e es => calmE e && calmEs es
noncomputable def calmT : T → Bool
  | .val e => calmE e | .cmp _ a b => calmE a && calmE b | .chain _ _ a b c => calmE a && (calmE b && calmE c)
  | .and a b => calmT a && calmT b | .or a b => calmT a && calmT b | .not a => calmT a
end

/-! ### values -/
noncomputable abbrev PEnv := List (Option Sl)
/-- what an expression comes to: a part of the tree that a slot owns, or a value of its own -/
inductive Bw where
  | b (i : Nat) (π : List Nat) | t (s : Sl)
  deriving Inhabited
noncomputable def slb (env : PEnv) : Bw → Option Sl
  | .t s => s.sub []
  | .b i π => (env.getD i none).bind fun s => s.sub π
/-- a part of a slot's tree is put in its place -/
noncomputable def setP (env : PEnv) (i : Nat) (π : List Nat) (t : Sl) : PEnv := match env.getD i none with
  | some s => env.set i (some (s.put π t))
  | none => env
/-- deep in a tree, while something runs that may change trees -/
noncomputable def gd (x : Bw) (calm : Bool) : Bool := match x with
  | .b _ (_ :: _) => calm
  | _ => true
noncomputable def pvb (env : PEnv) (x : Bw) : Option PV := (slb env x).map Sl.pv
/-- its items are shared values -/
noncomputable def Sl.strict : Sl → Bool
  | .nst _ => false | .ins _ _ _ => false | _ => true
noncomputable def stB (env : PEnv) (x : Bw) : Bool := match slb env x with
  | some s => s.strict | none => false
noncomputable def stBs (env : PEnv) : List Bw → Bool
  | [] => true
  | x :: xs => stB env x && stBs env xs
noncomputable def pvbs (env : PEnv) : List Bw → Option (List PV)
  | [] => some []
  | x :: xs => (pvb env x).bind fun p => (pvbs env xs).map (p :: ·)
/-- the value, shared from now on -/
noncomputable def fix (env : PEnv) : Bw → Option (PV × PEnv)
  | .t s => some (s.pv, env)
  | .b i π => (slb env (.b i π)).map fun s => (s.pv, setP env i π (.sh s.pv))
noncomputable def fixs (env : PEnv) : List Bw → Option (List PV × PEnv)
  | [] => some ([], env)
  | x :: xs => (fix env x).bind fun r => (fixs r.2 xs).map fun q => (r.1 :: q.1, q.2)
/-- to be stored: an owned value stays owned where it is nobody's -/
noncomputable def fixO (env : PEnv) : Bw → Option (Sl × PEnv)
  | .t s => some (s, env)
  | .b i π => (slb env (.b i π)).map fun s => (.sh s.pv, setP env i π (.sh s.pv))
/-- to be handed back: a slot's tree goes out (the first ones, that were lent, are shared) -/
noncomputable def fixR (lent : List Nat) (env : PEnv) : Bw → Option (Sl × PEnv)
  | .t s => some (s, env)
  | .b i [] => if lent.contains i then fixO env (.b i []) else (env.getD i none).map fun s => (s, env.set i none)
  | .b i π => fixO env (.b i π)
noncomputable def lim : Nat := 16777216
noncomputable def small (i : Int) : Bool := decide (-(2 ^ 64) < i ∧ i < 2 ^ 64)
noncomputable def toD : PV → Option PyData
  | .dct _ _ => none | .obj _ _ _ => none | .fn _ _ => none | .exc _ _ _ => none | .adr _ => none
  | .non => some .none | .bl b => some (.bool b) | .int i => some (.int i) | .str s => some (.str s)
  | .tup xs => (xs.attach.mapM fun p => toD p.1).map .tuple
  | .lst xs => (xs.attach.mapM fun p => toD p.1).map .list
termination_by p => sizeOf p
decreasing_by all_goals (have := List.sizeOf_lt_of_mem p.2; simp; omega)

/-- a text, n times -/
noncomputable def repS (s : Str) (j : Int) : Str := ⟨(List.replicate j.toNat s.cps).foldl (· ++ ·) #[]⟩
noncomputable def bin2 : Operator → PV → PV → Option Sl
  | .Add, .int i, .int j => some (.sh (.int (i + j)))
  | .Add, .str s, .str t => if s.length + t.length ≤ lim then some (.sh (.str (s ++ t))) else none
  | .Add, .lst xs, .lst ys => if xs.length + ys.length ≤ lim then some (.own (xs ++ ys)) else none
  | .Add, .tup xs, .tup ys => if xs.length + ys.length ≤ lim then some (.sh (.tup (xs ++ ys))) else none
  | .Sub, .int i, .int j => some (.sh (.int (i - j)))
  | .Mult, .int i, .int j => if small i || small j then some (.sh (.int (i * j))) else none
  | .Mod, .int i, .int j => if j ≠ 0 then some (.sh (.int (i.fmod j))) else none
  | .FloorDiv, .int i, .int j => if j ≠ 0 ∧ j.natAbs < 1073741824 then some (.sh (.int (i.fdiv j))) else none
  | .Pow, .int i, .int j => if 0 ≤ j ∧ j ≤ 1000000 ∧ i.natAbs < 2 ^ 64 then some (.sh (.int (i ^ j.toNat))) else none
  | .LShift, .int i, .int j => if 0 ≤ j ∧ j ≤ 1000000 ∧ i.natAbs < 2 ^ 64 then some (.sh (.int (i * 2 ^ j.toNat))) else none
  | .RShift, .int i, .int j => if 0 ≤ j then some (.sh (.int (i / 2 ^ j.toNat))) else none
  | .BitAnd, .int i, .int j => some (.sh (.int (Builtin.bitAnd i j)))
  | .BitOr, .int i, .int j => some (.sh (.int (Builtin.bitOr i j)))
  | .BitXor, .int i, .int j => some (.sh (.int (Builtin.bitXor i j)))
  | .Mult, .str s, .int j => if 0 ≤ j ∧ j ≤ 1000 ∧ s.length ≤ 1000 then some (.sh (.str (repS s j))) else none
  | _, _, _ => none
/-- == of scalars -/
noncomputable def eqS : PV → PV → Option Bool
  | .int i, .int j => some (decide (i = j))
  | .str s, .str t => some (decide (s = t))
  | .bl a, .bl b => some (decide (a = b))
  | .non, .non => some true
  | .non, .int _ => some false | .int _, .non => some false | .non, .bl _ => some false | .bl _, .non => some false | .non, .str _ => some false | .str _, .non => some false
  | .int _, .str _ => some false | .str _, .int _ => some false | .bl _, .str _ => some false | .str _, .bl _ => some false
  | _, _ => none
noncomputable def isSeq : PV → Bool
  | .tup _ => true | .lst _ => true | _ => false
/-- == of data, one of which is a list or tuple -/
noncomputable def eqD (p q : PV) : Option Bool := if isSeq p || isSeq q then
    match toD p, toD q with
    | some d, some e => if SeqAt.shaped d && SeqAt.shaped e then some (PyData.eqv d e) else none
    | _, _ => none
  else none
noncomputable def eq2 (p q : PV) : Option Bool := match eqS p q with
  | some b => some b
  | none => eqD p q
/-- a flat value as a V -/
noncomputable def flV : PV → Option V
  | .non => some .non | .bl b => some (.bl b) | .int i => some (.int i) | .str s => some (.str s) | _ => none
noncomputable def flVs : List PV → Option (List V)
  | [] => some []
  | p :: ps => (flV p).bind fun v => (flVs ps).map (v :: ·)
/-! dicts -/
noncomputable def keyP : PV → Option Key
  | .int i => some (.inl i)
  | .str s => some (.inr s)
  | _ => none
noncomputable def keysL : List PV → Option (List Key)
  | [] => some []
  | p :: ps => (keyP p).bind fun k => (keysL ps).map (k :: ·)
noncomputable def keysP : PV → Option (List Key)
  | .tup xs => keysL xs
  | _ => none
/-- may the value be a key of a dict of the kind? -/
noncomputable def okKey : Nat → PV → Bool
  | 0, p => (keyP p).isSome
  | 1, p => (keysP p).isSome
  | _, _ => false
noncomputable def eqK (p q : PV) : Bool := match keyP p, keyP q with
  | some a, some b => decide (a = b)
  | _, _ => match keysP p, keysP q with
    | some a, some b => decide (a = b)
    | _, _ => false
noncomputable def dFind (k : PV) : List (PV × PV) → Option PV
  | [] => none
  | e :: kvs => if eqK e.1 k then some e.2 else dFind k kvs
noncomputable def dPut (k v : PV) (kvs : List (PV × PV)) : List (PV × PV) := if kvs.any (fun e => eqK e.1 k) then kvs.map (fun e => if eqK e.1 k then (e.1, v) else e) else kvs ++ [(k, v)]
/-- in a list of data -/
noncomputable def inD (x : PV) (ys : List PV) : Option Bool := match toD x, ys.mapM toD with
  | some d, some ds => if SeqAt.shaped d && SeqAt.shaped (.list ds) then some (ds.any fun z => PyData.eqv z d) else none
  | _, _ => none
noncomputable def in2 : PV → PV → Option Bool
  | .str s, .str t => some (!(Builtin.Str.occurrences t s 0 t.length 1).isEmpty)
  | x, .lst ys => match (flV x).bind fun v => (flVs ys).map fun vs => inV v vs with
    | some b => some b
    | none => inD x ys
  | x, .tup ys => (flV x).bind fun v => (flVs ys).map fun vs => inV v vs
  | k, .dct t kvs => if okKey t k then some (dFind k kvs).isSome else none
  | _, _ => none
noncomputable def cmp2 : CmpOp → PV → PV → Option Bool
  | .Eq, p, q => eq2 p q
  | .NotEq, p, q => (eq2 p q).map (!·)
  | .Lt, .int i, .int j => some (decide (i < j))
  | .LtE, .int i, .int j => some (decide (i ≤ j))
  | .Gt, .int i, .int j => some (decide (j < i))
  | .GtE, .int i, .int j => some (decide (j ≤ i))
  | .Is, p, .non => some (match p with | .non => true | _ => false)
  | .IsNot, p, .non => some (match p with | .non => false | _ => true)
  | .In, p, q => in2 p q
  | .NotIn, p, q => (in2 p q).map (!·)
  | _, _, _ => none
noncomputable def truth : PV → Option Bool
  | .non => some false | .bl b => some b | .int i => some (i != 0)
  | .str s => if s.length ≤ lim then some ((s.length : Int) != 0) else none
  | .lst xs => some (!xs.isEmpty) | .tup xs => some (!xs.isEmpty)
  | .dct _ _ => none | .obj _ _ _ => none | .fn _ _ => none | .exc _ _ _ => none | .adr _ => none
noncomputable def ix2 : PV → PV → Option PV
  | .lst xs, .int i => atI xs i
  | .tup xs, .int i => atI xs i
  | .str s, .int i => if s.length ≤ lim then (atI s.cps.toList i).map fun c => .str ⟨#[c]⟩ else none
  | .dct t kvs, k => if okKey t k then dFind k kvs else none
  | _, _ => none
noncomputable def cutP (xs : List PV) (lo hi : Option Int) : List PV := (xs.drop (HT.sIx xs.length 0 lo)).take (HT.sIx xs.length xs.length hi - HT.sIx xs.length 0 lo)
noncomputable def slc3 (p : PV) (lo hi : Option Int) : Option Sl := match p with
  | .lst xs => some (.own (cutP xs lo hi))
  | .tup xs => some (.sh (.tup (cutP xs lo hi)))
  | .str s => if s.length ≤ lim then some (.sh (.str (cutS s lo hi))) else none
  | _ => none
noncomputable def asInts : List PV → Option (List Int)
  | [] => some []
  | .int i :: ps => (asInts ps).map (i :: ·)
  | _ => none
noncomputable def asBls : List PV → Option (List Bool)
  | [] => some []
  | .bl i :: ps => (asBls ps).map (i :: ·)
  | _ => none
noncomputable def asStrs : List PV → Option (List Str)
  | [] => some []
  | .str i :: ps => (asStrs ps).map (i :: ·)
  | _ => none
noncomputable def isortI : List Int → List Int
  | [] => []
  | x :: xs => ins x (isortI xs)
where ins (x : Int) : List Int → List Int
  | [] => [x]
  | y :: ys => if x ≤ y then x :: y :: ys else y :: ins x ys
/-- sorted of tuples -/
noncomputable def ddOf (p : PV) : PyData := (toD p).getD .none
noncomputable def tup1 : PV → Bool
  | .tup (_ :: _) => true
  | _ => false
noncomputable def srtOk (xs : List PV) : Bool := (xs.all fun p => (toD p).isSome && (tup1 p && decide ((ddOf p).depth ≤ 60))) && (xs.all fun p => xs.all fun q => PySem.W.alike (ddOf p) (ddOf q))
noncomputable def srtD (xs : List PV) : List PV := xs.mergeSort (PySem.W.dataLe false ddOf)
noncomputable def sortB (xs : List PV) : Option Sl := match asInts xs with
  | some ns => some (.own ((isortI ns).map PV.int))
  | none => if srtOk xs then some (.own (srtD xs)) else none
/-- the greatest, the least of a list of ints -/
noncomputable def maxL (xs : List PV) : Option Int := (asInts xs).bind List.max?
noncomputable def minL (xs : List PV) : Option Int := (asInts xs).bind List.min?
/-- built-in functions and types -/
noncomputable def blt2 : String → List PV → Option Sl
  | "len", [.lst xs] => some (.sh (.int xs.length))
  | "len", [.tup xs] => some (.sh (.int xs.length))
  | "len", [.str s] => if s.length ≤ lim then some (.sh (.int s.length)) else none
  | "len", [.dct 0 kvs] => some (.sh (.int kvs.length))
  | "len", [.dct 1 kvs] => some (.sh (.int kvs.length))
  | "sum", [.lst xs] => (asInts xs).map fun ns => .sh (.int ns.sum)
  | "all", [.lst xs] => (asBls xs).map fun bs => .sh (.bl (bs.all id))
  | "any", [.lst xs] => (asBls xs).map fun bs => .sh (.bl (bs.any id))
  | "abs", [.int i] => some (.sh (.int (if i < 0 then -i else i)))
  | "max", [.int i, .int j] => some (.sh (.int (if j > i then j else i)))
  | "min", [.int i, .int j] => some (.sh (.int (if j < i then j else i)))
  | "max", [.lst xs] => (maxL xs).map fun m => .sh (.int m)
  | "min", [.lst xs] => (minL xs).map fun m => .sh (.int m)
  | "int", [.int i] => some (.sh (.int i))
  | "int", [.bl b] => some (.sh (.int (if b then 1 else 0)))
  | "int", [.str s] => if s.length ≤ 640 then (PySem.intText? s).map fun n => .sh (.int n) else none
  | "str", [.int i] => if i.natAbs.log2 < 1920 then some (.sh (.str (toString i))) else none
  | "list", [.lst xs] => some (.own xs)
  | "list", [.tup xs] => some (.own xs)
  | "tuple", [.lst xs] => some (.sh (.tup xs))
  | "tuple", [.tup xs] => some (.sh (.tup xs))
  | "sorted", [.lst xs] => sortB xs
  | _, _ => none
/-- isinstance with a built-in class -/
noncomputable def isi2 : PV → String → Option Bool
  | .non, t => kitB "NoneType" t
  | .bl _, t => kitB "bool" t
  | .int _, t => kitB "int" t
  | .str _, t => kitB "str" t
  | .lst _, t => kitB "list" t
  | .tup _, t => kitB "tuple" t
  | .dct _ _, t => kitB "dict" t
  | .obj _ _ _, _ => none
  | .fn _ _, _ => none
  | .exc _ _ _, _ => none
  | .adr _, _ => none
/-- methods that change nothing -/
noncomputable def meth2 : String → PV → PV → Option Sl
  | "join", .str s, .lst xs => (asStrs xs).bind fun ys => if (ys.map (·.length)).sum + ys.length * s.length ≤ lim then some (.sh (.str (Txt.join s ys))) else none
  | "find", .str s, .str t => some (.sh (.int (Txt.find s t)))
  | "split", .str s, .str t => if t.length ≠ 0 ∧ s.length + 2 ≤ lim then some (.own ((Txt.split s t).map PV.str)) else none
  | _, _, _ => none

/-- what is walked, item by item -/
noncomputable def rangeL (lo : Int) (n : Nat) : List PV := (List.range n).map fun (k : Nat) => .int (lo + (k : Int))
noncomputable def inR (i : Int) : Bool := decide (-(2 ^ 62) ≤ i ∧ i < 2 ^ 62)
noncomputable def items1 : PV → Option (List PV)
  | .lst xs => some xs
  | .tup xs => some xs
  | .str s => some (s.cps.toList.map fun c => .str ⟨#[c]⟩)
  | _ => none
noncomputable def enumL (xs : List PV) : List PV := (List.range xs.length).zipWith (fun (k : Nat) x => PV.tup [.int (k : Int), x]) xs
noncomputable def zipL : PV → PV → Option (List PV)
  | .lst xs, .lst ys => some (xs.zipWith (fun x y => PV.tup [x, y]) ys)
  | .tup xs, .tup ys => some (xs.zipWith (fun x y => PV.tup [x, y]) ys)
  | _, _ => none
/-- a target takes an item -/
noncomputable def setAll : List Nat → List PV → PEnv → Option PEnv
  | [], [], env => some env
  | i :: is, p :: ps, env => setAll is ps (env.set i (some (.sh p)))
  | _, _, _ => none
noncomputable def bindT : Tg → PV → PEnv → Option PEnv
  | .name i, p, env => some (env.set i (some (.sh p)))
  | .tup is, .tup ps, env => setAll is ps env
  | _, _, _ => none
noncomputable def wipeE : List Nat → PEnv → PEnv
  | [], env => env
  | i :: is, env => (wipeE is env).set i none

/-- a slot that a comprehension may cover: nothing or a shared value -/
noncomputable def shN (env : PEnv) (i : Nat) : Bool := match env.getD i none with
  | none => true | some (.sh _) => true | _ => false
/-- .. and what it held, behind it -/
noncomputable def backE (old : PEnv) : List Nat → PEnv → PEnv
  | [], env => env
  | i :: is, env => (backE old is env).set i (old.getD i none)
/-- the comprehension's loop: acc what is made so far -/
noncomputable def compL (step : PV → PEnv → Option (Option PV × PEnv)) : List PV → PEnv → List PV → Option (List PV × PEnv)
  | [], env, acc => some (acc, env)
  | p :: ps, env, acc => (step p env).bind fun r => match r.1 with
    | some q => if acc.length < lim then compL step ps r.2 (acc ++ [q]) else none
    | none => compL step ps r.2 acc

/-- what a def gives back: its value, and the trees that it was lent -/
noncomputable abbrev Fns := Nat → List Sl → Option (Sl × List Sl)
/-- how a statement ends -/
inductive Fl where
  | next (env : PEnv) | ret (s : Sl) (env : PEnv) | brk (env : PEnv)
noncomputable def forL (body : PV → PEnv → Option Fl) : List PV → PEnv → Option Fl
  | [], env => some (.next env)
  | p :: ps, env => (body p env).bind fun r => match r with
    | .next e => forL body ps e
    | .ret s e => some (.ret s e)
    | .brk e => some (.next e)
/-! ### instances -/
/-- the place of a name -/
noncomputable def posS : List Str → Str → Option Nat
  | [], _ => none
  | n :: ns, f => if n = f then some 0 else (posS ns f).map (· + 1)
noncomputable def tbF {α : Type} : List (Str × α) → Str → Option α
  | [], _ => none
  | e :: r, c => if e.1 = c then some e.2 else tbF r c
/-- o.f, of what stands -/
noncomputable def attB (env : PEnv) (x : Bw) (f : Str) (cs : List Str) : Option Bw := match slb env x with
  | some (.sh (.obj c ns xs)) => if cs.contains c then (posS ns f).bind fun n => (xs[n]?).map fun p => .t (.sh p) else none
  | some (.ins c ns xs) => if cs.contains c then (posS ns f).bind fun n => (xs[n]?).bind fun s => match s, x with
      | .sh p, _ => some (.t (.sh p))
      | _, .b i π => some (.b i (π ++ [n]))
      | _, .t _ => none
    else none
  | _ => none
/-- x[k] -/
noncomputable def ixB (env : PEnv) (x : Bw) (k : PV) : Option Bw := match slb env x, k with
  | some (.nst xs), .int i => (ixN xs.length i).bind fun n => (xs[n]?).bind fun s => match s, x with
    | .sh p, _ => some (.t (.sh p))
    | _, .b i π => some (.b i (π ++ [n]))
    | _, .t _ => none
  | some (.ins _ _ _), _ => none
  | some s, k => (ix2 s.pv k).map fun p => .t (.sh p)
  | none, _ => none
/-- the class of an instance that has no attribute m of its own -/
noncomputable def clsB (env : PEnv) (x : Bw) (m : Str) : Option Str := match slb env x with
  | some (.sh (.obj c ns _)) => if posS ns m = none then some c else none
  | some (.ins c ns _) => if posS ns m = none then some c else none
  | _ => none
/-- a call, all that is handed in is shown -/
noncomputable def callN (F : Fns) (g : Nat) (env : PEnv) (bs : List Bw) : Option (Bw × PEnv) :=
  (pvbs env bs).bind fun ps => (F g (ps.map .sh)).bind fun s => if s.1.flat then some (.t s.1, env) else (fixs env bs).map fun q => (.t s.1, q.2)
/-- what is handed in where some is lent (whole slots, or values of their own) -/
noncomputable def argS (env : PEnv) : List Bool → List Bw → Option (List Sl)
  | [], [] => some []
  | true :: ls, .b i [] :: xs => (env.getD i none).bind fun s => (argS env ls xs).map fun r => s :: r
  | true :: ls, .t s :: xs => (argS env ls xs).map fun r => s :: r
  | false :: ls, x :: xs => (slb env x).bind fun s => (argS env ls xs).map fun r => .sh s.pv :: r
  | _, _ => none
/-- the slots that are touched -/
noncomputable def rootsB : List Bw → List Nat
  | [] => []
  | .b i _ :: xs => i :: rootsB xs
  | .t _ :: xs => rootsB xs
/-- what comes back is put in its place -/
noncomputable def putB : List Bool → List Bw → List Sl → PEnv → Option PEnv
  | [], [], [], env => some env
  | true :: ls, .b i [] :: xs, s :: ss, env => putB ls xs ss (env.set i (some s))
  | true :: ls, .t _ :: xs, _ :: ss, env => putB ls xs ss env
  | false :: ls, _ :: xs, ss, env => putB ls xs ss env
  | _, _, _, _ => none
/-- what is shown is shared already -/
noncomputable def isSh : Option Sl → Bool
  | some (.sh _) => true
  | _ => false
noncomputable def shB (env : PEnv) : List Bool → List Bw → Bool
  | true :: ls, _ :: xs => shB env ls xs
  | false :: ls, x :: xs => isSh (slb env x) && shB env ls xs
  | _, _ => true
noncomputable def callL (F : Fns) (ls : List Bool) (g : Nat) (env : PEnv) (bs : List Bw) : Option (Bw × PEnv) :=
  if (rootsB bs).Nodup then (argS env ls bs).bind fun ss => (F g ss).bind fun q => if (q.1.flat && Sl.flats q.2) || shB env ls bs then (putB ls bs q.2 env).map fun e => (.t q.1, e) else none else none
/-- C(..): the new instance is lent to __init__ -/
noncomputable def newC (F : Fns) (c : Str) (g : Nat) (env : PEnv) (bs : List Bw) : Option (Bw × PEnv) :=
  (pvbs env bs).bind fun ps => (F g (.ins c [] [] :: ps.map .sh)).bind fun q => match q with
    | (.sh .non, [s]) => if s.flat then some (.t s, env) else (fixs env bs).map fun r => (.t s, r.2)
    | _ => none
/-- a op b op' c -/
noncomputable def fChain (F G W : PEnv → Option (Bw × PEnv)) (cg ch : Bool) (op op' : CmpOp) : PEnv → Option (Bool × PEnv) := fun env =>
  (F env).bind fun r => if gd r.1 (cg && ch) = true then (G r.2).bind fun q => if gd q.1 ch = true then (pvb q.2 r.1).bind fun x => (pvb q.2 q.1).bind fun y => (cmp2 op x y).bind fun z =>
      if z then (W q.2).bind fun w => (pvb w.2 q.1).bind fun y' => (pvb w.2 w.1).bind fun u => (cmp2 op' y' u).map fun z' => (z', w.2) else some (false, q.2) else none else none
/-! ### lists of lists -/
open Classical in
/-- the turns of such a loop -/
noncomputable def orE (j w : Nat) : PEnv → Int → List Int → PEnv
  | env, _, [] => env
  | env, a, n :: ns => orE j w ((env.set w (some (.sh (.int n)))).set j (some (.sh (.int (Builtin.bitOr a n))))) (Builtin.bitOr a n) ns
noncomputable def orB (j w : Nat) (env : PEnv) (x : Bw) : Option Fl := match x, slb env x, env.getD j none with
  | .b i _, some (.own xs), some (.sh (.int a)) => if (i ≠ j ∧ i ≠ w) ∧ (j ≠ w ∧ (j < env.length ∧ w < env.length)) then (asInts xs).map fun ns => .next (orE j w env a ns) else none
  | _, _, _ => none
mutual
noncomputable def ev (F : Fns) : E → PEnv → Option (Bw × PEnv)
  | .var i, env => match env.getD i none with
    | some (.sh p) => some (.t (.sh p), env)
    | some _ => some (.b i [], env)
    | none => none
  | .non, env => some (.t (.sh .non), env)
  | .bl b, env => some (.t (.sh (.bl b)), env)
  | .int i, env => some (.t (.sh (.int i)), env)
  | .str s, env => some (.t (.sh (.str s)), env)
  | .glob _ p, env => some (.t (.sh p), env)
  | .bin op a b, env => (ev F a env).bind fun r => if gd r.1 (calmE b) then (ev F b r.2).bind fun q => if stB q.2 r.1 && stB q.2 q.1 then (pvb q.2 r.1).bind fun x => (pvb q.2 q.1).bind fun y => (bin2 op x y).map fun z => (.t z, q.2) else none else none
  | .neg a, env => (ev F a env).bind fun r => match pvb r.2 r.1 with
    | some (.int i) => some (.t (.sh (.int (-i))), r.2)
    | _ => none
  | .cmp op a b, env => (ev F a env).bind fun r => if gd r.1 (calmE b) then (ev F b r.2).bind fun q => (pvb q.2 r.1).bind fun x => (pvb q.2 q.1).bind fun y => (cmp2 op x y).map fun z => (.t (.sh (.bl z)), q.2) else none
  | .chain op op' a b c, env => (fChain (ev F a) (ev F b) (ev F c) (calmE b) (calmE c) op op' env).map fun z => (.t (.sh (.bl z.1)), z.2)
  | .and a b, env => (ev F a env).bind fun r => match pvb r.2 r.1 with
    | some (.bl true) => ev F b r.2
    | some (.bl false) => some (.t (.sh (.bl false)), r.2)
    | _ => none
  | .or a b, env => (ev F a env).bind fun r => match pvb r.2 r.1 with
    | some (.bl false) => ev F b r.2
    | some (.bl true) => some (.t (.sh (.bl true)), r.2)
    | _ => none
  | .not a, env => (ev F a env).bind fun r => (pvb r.2 r.1).bind fun x => (truth x).map fun b => (.t (.sh (.bl (!b))), r.2)
  | .ife c a b, env => (evT F c env).bind fun r => if r.1 then ev F a r.2 else ev F b r.2
  | .ix a b, env => (ev F a env).bind fun r => if gd r.1 (calmE b) then (ev F b r.2).bind fun q => (pvb q.2 q.1).bind fun y => (ixB q.2 r.1 y).map fun z => (z, q.2) else none
  | .slc a lo hi, env => (ev F a env).bind fun r => if gd r.1 (calmO lo && calmO hi) then (evO F lo r.2).bind fun l => (evO F hi l.2).bind fun h => if stB h.2 r.1 then (pvb h.2 r.1).bind fun x => (slc3 x l.1 h.1).map fun z => (.t z, h.2) else none else none
  | .tup es, env => (evs F es env).bind fun r => (fixs r.2 r.1).bind fun q => if q.1.length ≤ lim then some (.t (.sh (.tup q.1)), q.2) else none
  | .lst es, env => (evs F es env).bind fun r => (fixs r.2 r.1).bind fun q => if q.1.length ≤ lim then some (.t (.own q.1), q.2) else none
  | .call g es, env => (evs F es env).bind fun r => callN F g r.2 r.1
  | .blt f es, env => (evs F es env).bind fun r => if f == "len" || stBs r.2 r.1 then (pvbs r.2 r.1).bind fun ps => (blt2 f ps).map fun s => (.t s, r.2) else none
  | .isi a ty, env => (ev F a env).bind fun r => (pvb r.2 r.1).bind fun x => (isi2 x ty).map fun z => (.t (.sh (.bl z)), r.2)
  | .meth m a b, env => (ev F a env).bind fun r => (pvb r.2 r.1).bind fun x => if gd r.1 (calmE b) then (ev F b r.2).bind fun q => (pvb q.2 q.1).bind fun y => (meth2 m x y).map fun z => (.t z, q.2) else none
  | .comp elt tg own it cd, env => (evI F it env).bind fun r => if (own.map (·.2)).all (shN r.2) then
      (compL (fun p e => (bindT tg p e).bind fun e1 => (evC F cd e1).bind fun c => if c.1 then (ev F elt c.2).bind fun x => (fix x.2 x.1).map fun y => (some y.1, wipeE (own.map (·.2)) y.2) else some (none, wipeE (own.map (·.2)) c.2)) r.1 (wipeE (own.map (·.2)) r.2) []).map
        fun q => (.t (.own q.1), backE r.2 (own.map (·.2)) (wipeE (own.map (·.2)) q.2))
    else none
  | .att o f cs, env => (ev F o env).bind fun r => (attB r.2 r.1 f cs).map fun x => (x, r.2)
  | .mcall o m tb es, env => (ev F o env).bind fun r => (clsB r.2 r.1 m).bind fun c => (tbF tb c).bind fun g => if gd r.1 (calmEs es) then (evs F es r.2).bind fun q => callN F g q.2 (r.1 :: q.1) else none
  | .lmcall o m tb es, env => (ev F o env).bind fun r => (clsB r.2 r.1 m).bind fun c => (tbF tb c).bind fun g => if gd r.1 (calmEs es) then (evs F es r.2).bind fun q => callL F (true :: q.1.map fun _ => false) g q.2 (r.1 :: q.1) else none
  | .new c g es, env => (evs F es env).bind fun r => newC F c g r.2 r.1
  | .wall, _ => none
noncomputable def evO (F : Fns) : O → PEnv → Option (Option Int × PEnv)
  | .no, env => some (none, env)
  | .some e, env => (ev F e env).bind fun r => match pvb r.2 r.1 with
    | some (.int i) => some (some i, r.2)
    | _ => none
noncomputable def evC (F : Fns) : C → PEnv → Option (Bool × PEnv)
  | .yes, env => some (true, env)
  | .on t, env => evT F t env
noncomputable def evs (F : Fns) : Es → PEnv → Option (List Bw × PEnv)
  | .nil, env => some ([], env)
  | .cons e es, env => (ev F e env).bind fun r => if gd r.1 (calmEs es) then (evs F es r.2).map fun q => (r.1 :: q.1, q.2) else none
noncomputable def evT (F : Fns) : T → PEnv → Option (Bool × PEnv)
  | .val e, env => (ev F e env).bind fun r => (pvb r.2 r.1).bind fun x => (truth x).map fun b => (b, r.2)
  | .cmp op a b, env => (ev F a env).bind fun r => if gd r.1 (calmE b) then (ev F b r.2).bind fun q => (pvb q.2 r.1).bind fun x => (pvb q.2 q.1).bind fun y => (cmp2 op x y).map fun z => (z, q.2) else none
  | .chain op op' a b c, env => fChain (ev F a) (ev F b) (ev F c) (calmE b) (calmE c) op op' env
  | .and a b, env => (evT F a env).bind fun r => if r.1 then evT F b r.2 else some (false, r.2)
  | .or a b, env => (evT F a env).bind fun r => if r.1 then some (true, r.2) else evT F b r.2
  | .not a, env => (evT F a env).map fun r => (!r.1, r.2)
noncomputable def evI (F : Fns) : I → PEnv → Option (List PV × PEnv)
  | .val e, env => (ev F e env).bind fun r => (fix r.2 r.1).bind fun q => (items1 q.1).map fun xs => (xs, q.2)
  | .range1 e, env => (ev F e env).bind fun r => match pvb r.2 r.1 with
    | some (.int j) => if inR j then some (rangeL 0 j.toNat, r.2) else none
    | _ => none
  | .enum e, env => (ev F e env).bind fun r => (fix r.2 r.1).bind fun q => match q.1 with
    | .lst xs => some (enumL xs, q.2)
    | _ => none
  | .zip a b, env => (ev F a env).bind fun r => if gd r.1 (calmE b) then (ev F b r.2).bind fun q => (fixs q.2 [r.1, q.1]).bind fun z => match z.1 with
    | [x, y] => (zipL x y).map fun xs => (xs, z.2)
    | _ => none else none
end
/-- a list at its place grows, .. -/
noncomputable def isOwn : Option Sl → Bool
  | some (.own _) => true
  | _ => false
noncomputable def appB (env : PEnv) (x : Bw) (p : PV) : Option PEnv := match x, slb env x with
  | .b i π, some (.own xs) => if xs.length < lim then some (setP env i π (.own (xs ++ [p]))) else none
  | _, _ => none
noncomputable def stxB (env : PEnv) (x : Bw) (k p : PV) : Option PEnv := match x, slb env x with
  | .b i π, some (.own xs) => match k with
    | .int n => (ixN xs.length n).map fun j => setP env i π (.own (xs.set j p))
    | _ => none
  | .b i π, some (.dct t kvs) => if okKey t k && decide (kvs.length < lim) then some (setP env i π (.dct t (dPut k p kvs))) else none
  | _, _ => none
noncomputable def popB (env : PEnv) (x : Bw) : Option PEnv := match x, slb env x with
  | .b i π, some (.own xs) => if xs.length = 0 then none else some (setP env i π (.own xs.dropLast))
  | _, _ => none
/-- a field is stored -/
noncomputable def fldB (env : PEnv) (x : Bw) (f : Str) (cs : List Str) (s : Sl) : Option PEnv := match x, slb env x with
  | .b i π, some (.ins c ns xs) => if cs.contains c && decide (ns.length < 1000) then some (setP env i π (match posS ns f with
      | some n => .ins c ns (xs.set n s)
      | none => .ins c (ns ++ [f]) (xs ++ [s]))) else none
  | _, _ => none
mutual
noncomputable def ex (F : Fns) : S → PEnv → Option Fl
  | .pass, env => some (.next env)
  | .wall, _ => none
  | .set i e, env => (ev F e env).bind fun r => (fixO r.2 r.1).map fun q => .next (q.2.set i (some q.1))
  | .expr e, env => (ev F e env).map fun r => .next r.2
  | .ret l e, env => (ev F e env).bind fun r => (fixR l r.2 r.1).map fun q => .ret q.1 q.2
  | .retN, env => some (.ret (.sh .non) env)
  | .ife c a b, env => (evT F c env).bind fun r => if r.1 then exs F a r.2 else exs F b r.2
  | .for tg it b, env => (evI F it env).bind fun r => forL (fun p e => (bindT tg p e).bind fun e1 => exs F b e1) r.1 r.2
  | .app o e, env => (ev F o env).bind fun r => if gd r.1 (calmE e) && isOwn (slb r.2 r.1) then (ev F e r.2).bind fun q => (fix q.2 q.1).bind fun z => (appB z.2 r.1 z.1).map .next else none
  | .stx o k e, env => (ev F e env).bind fun r => (fix r.2 r.1).bind fun z => (ev F o z.2).bind fun q => if gd q.1 (calmE k) then (ev F k q.2).bind fun w => (fix w.2 w.1).bind fun u => (stxB u.2 q.1 u.1 z.1).map .next else none
  | .pop o, env => (ev F o env).bind fun r => (popB r.2 r.1).map .next
  | .fld o f cs e, env => (ev F e env).bind fun r => (fixO r.2 r.1).bind fun z => (ev F o z.2).bind fun q => (fldB q.2 q.1 f cs z.1).map .next
  | .brk, env => some (.brk env)
  | .raise _ _, _ => none
  | .orO j w o, env => (ev F o env).bind fun r => orB j w r.2 r.1
noncomputable def exs (F : Fns) : Ss → PEnv → Option Fl
  | .nil, env => some (.next env)
  | .cons s ss, env => (ex F s env).bind fun r => match r with
    | .next e => exs F ss e
    | .ret v e => some (.ret v e)
    | .brk e => some (.brk e)
end
/-- how a raising ends: the class, what is handed to it, the slots -/
abbrev Xc := Str × PV × PEnv
/-- a for in whose turn a text raises -/
noncomputable def forX (body : PV → PEnv → Option Fl) (bodyX : PV → PEnv → Option Xc) : List PV → PEnv → Option Xc
  | [], _ => none
  | p :: ps, env => match bodyX p env with
    | some r => some r
    | none => (body p env).bind fun r => match r with
      | .next e => forX body bodyX ps e
      | _ => none
mutual
noncomputable def exX (F : Fns) : S → PEnv → Option Xc
  | .raise c e, env => (ev F e env).bind fun r => (fix r.2 r.1).map fun q => (c, q.1, q.2)
  | .ife t a b, env => (evT F t env).bind fun r => if r.1 then exsX F a r.2 else exsX F b r.2
  | .for tg it b, env => (evI F it env).bind fun r => forX (fun p e => (bindT tg p e).bind fun e1 => exs F b e1) (fun p e => (bindT tg p e).bind fun e1 => exsX F b e1) r.1 r.2
  | _, _ => none
noncomputable def exsX (F : Fns) : Ss → PEnv → Option Xc
  | .cons s ss, env => match exX F s env with
    | some r => some r
    | none => (ex F s env).bind fun fl => match fl with
      | .next e => exsX F ss e
      | _ => none
  | _, _ => none
end
/-- a def: how many names (parameters first), its parameters, which of them are lent, its body -/
structure Fn where
  name : Str
  qn : Str
  N : List Str
  ps : List Str
  lent : List Bool
  top : Bool
  body : Ss
  /-- 0: a def; 1: a def that ends with a def and gives it back; 2: such a function; 3: a def (again) where it raises -/
  kd : Nat
noncomputable def backs : List Bool → PEnv → Option (List Sl)
  | [], _ => some []
  | true :: ls, some s :: env => (backs ls env).map (s :: ·)
  | true :: _, _ => none
  | false :: ls, _ :: env => backs ls env
  | false :: _, [] => none
/-- the slots that were lent -/
noncomputable def lentIx : Nat → List Bool → List Nat
  | _, [] => []
  | n, true :: ls => n :: lentIx (n + 1) ls
  | n, false :: ls => lentIx (n + 1) ls
noncomputable def Fn.run (f : Fn) (F : Fns) (args : List Sl) : Option (Sl × List Sl) :=
  if args.length = f.ps.length then
    if f.kd = 3 then (exsX F f.body (args.map some ++ List.replicate (f.N.length - args.length) none)).bind fun x => (backs f.lent x.2.2).map fun r => (.sh (.tup [.str x.1, x.2.1]), r)
    else match exs F f.body (args.map some ++ List.replicate (f.N.length - args.length) none) with
    | some (.ret s env) => (backs f.lent env).map fun r => (s, r)
    | some (.next env) => (backs f.lent env).map fun r => (.sh .non, r)
    | _ => none
  else none
/-- the defs at a level of calls -/
noncomputable def fns (P : List Fn) : Nat → Fns
  | 0 => fun _ _ => none
  | n + 1 => fun g args => match P[g]? with
    | some f => f.run (fns P n) args
    | none => none
end Me
/-! Me4: the state of a frame: slots, what they hold, values at hand. -/
namespace Me
open PySem PySem.Spec PyProof.Rows L2
open NdefX (TabsN NTab TabN)
open LamX (CodeO TabB ExtN)
variable [Reg]

inductive Lv : L2.St → PEnv → List (V × Sl) → Prop
  | nil : Lv [] [] []
  | skip {x : Option V} {σ : L2.St} {env : PEnv} {E : List (V × Sl)} : Lv σ env E → Lv (x :: σ) (none :: env) E
  | live {v : V} {s : Sl} {σ : L2.St} {env : PEnv} {E : List (V × Sl)} : Lv σ env E → Lv (some v :: σ) (some s :: env) ((v, s) :: E)
theorem Lv.length : ∀ {σ : L2.St} {env : PEnv} {E : List (V × Sl)}, Lv σ env E → σ.length = env.length
  | _, _, _, .nil => rfl
  | _, _, _, .skip h => congrArg (· + 1) h.length
  | _, _, _, .live h => congrArg (· + 1) h.length
/-- a slot that holds something -/
theorem Lv.split : ∀ {σ : L2.St} {env : PEnv} {E : List (V × Sl)} {i : Nat} {s : Sl}, Lv σ env E → env.getD i none = some s →
    ∃ v E1 E2, σ[i]? = some (some v) ∧ E = E1 ++ (v, s) :: E2 ∧ (∀ s', Lv σ (env.set i (some s')) (E1 ++ (v, s') :: E2)) ∧ Lv σ (env.set i none) (E1 ++ E2)
  | _, _, _, i, _, .nil, h => by simp at h
  | _, _, _, 0, _, .skip h, e => by simp at e
  | _, _, _, i + 1, s, .skip h, e => by
    obtain ⟨v, E1, E2, h1, h2, h3, h4⟩ := h.split (i := i) (s := s) (by simpa using e)
    exact ⟨v, E1, E2, by simpa using h1, h2, fun s' => .skip (h3 s'), .skip h4⟩
  | _, _, _, 0, s, .live (v := v) (E := E) h, e => by
    simp at e; subst e
    exact ⟨v, [], E, rfl, rfl, fun s' => .live h, .skip h⟩
  | _, _, _, i + 1, s, .live (v := v') (s := t) h, e => by
    obtain ⟨v, E1, E2, h1, h2, h3, h4⟩ := h.split (i := i) (s := s) (by simpa using e)
    exact ⟨v, (v', t) :: E1, E2, by simpa using h1, by rw [h2]; rfl, fun s' => .live (h3 s'), .live h4⟩
/-- a slot is stored -/
theorem Lv.store : ∀ {σ : L2.St} {env : PEnv} {E : List (V × Sl)} {i : Nat} (v : V) (s : Sl), Lv σ env E → i < env.length →
    ∃ E1 Eo E2, E = E1 ++ Eo ++ E2 ∧ Lv (σ.set i (some v)) (env.set i (some s)) (E1 ++ (v, s) :: E2)
  | _, _, _, i, _, _, .nil, h => by simp at h
  | _, _, _, 0, v, s, .skip (E := E) h, _ => ⟨[], [], E, rfl, .live h⟩
  | _, _, _, i + 1, v, s, .skip h, e => by
    obtain ⟨E1, Eo, E2, h1, h2⟩ := h.store (i := i) v s (by simpa using e)
    exact ⟨E1, Eo, E2, h1, .skip h2⟩
  | _, _, _, 0, v, s, .live (v := v') (s := t) (E := E) h, _ => ⟨[], [(v', t)], E, rfl, .live h⟩
  | _, _, _, i + 1, v, s, .live (v := v') (s := t) h, e => by
    obtain ⟨E1, Eo, E2, h1, h2⟩ := h.store (i := i) v s (by simpa using e)
    exact ⟨(v', t) :: E1, Eo, E2, by rw [h1]; rfl, .live h2⟩
/-- a slot is forgotten -/
theorem Lv.drop1 : ∀ {σ : L2.St} {env : PEnv} {E : List (V × Sl)} (i : Nat), Lv σ env E → ∃ E', List.Sublist E' E ∧ Lv σ (env.set i none) E' ∧ ∀ x, Lv (σ.set i x) (env.set i none) E'
  | _, _, _, i, .nil => ⟨[], .refl _, by simpa using Lv.nil, fun x => by simpa using Lv.nil⟩
  | _, _, _, 0, .skip (E := E) h => ⟨E, .refl _, .skip h, fun x => .skip h⟩
  | _, _, _, i + 1, .skip h => by
    obtain ⟨E', h1, h2, h3⟩ := h.drop1 i
    exact ⟨E', h1, .skip h2, fun x => .skip (h3 x)⟩
  | _, _, _, 0, .live (E := E) h => ⟨E, List.sublist_cons_self _ _, .skip h, fun x => .skip h⟩
  | _, _, _, i + 1, .live (v := v) (s := s) h => by
    obtain ⟨E', h1, h2, h3⟩ := h.drop1 i
    exact ⟨(v, s) :: E', h1.cons_cons _, .live h2, fun x => .live (h3 x)⟩

noncomputable def ent : V × Bw → Option (V × Sl)
  | (v, .t s) => some (v, s)
  | _ => none
noncomputable abbrev tents (T : List (V × Bw)) : List (V × Sl) := T.filterMap ent
theorem tents_append (A B : List (V × Bw)) : tents (A ++ B) = tents A ++ tents B := List.filterMap_append
theorem tents_t (v : V) (s : Sl) (B : List (V × Bw)) : tents ((v, .t s) :: B) = (v, s) :: tents B := rfl
theorem tents_b (v : V) (i : Nat) (π : List Nat) (B : List (V × Bw)) : tents ((v, .b i π) :: B) = tents B := rfl

structure SAx (K : PySem.W.Frag) (H0 M0 : Hp) (σ : L2.St) (env : PEnv) (T : List (V × Bw)) (H : Hp) (E : List (V × Sl)) (M : Hp) : Prop where
  lv : Lv σ env E
  hyp : Hyp K H0 M0 M H (E ++ tents T)
  bor : ∀ v i π, (v, Bw.b i π) ∈ T → ∃ v0, σ[i]? = some (some v0) ∧ Nd H v0 π v ∧ (env.getD i none).isSome
noncomputable def SA (K : PySem.W.Frag) (H0 M0 : Hp) (σ : L2.St) (env : PEnv) (T : List (V × Bw)) (H : Hp) : Prop := ∃ E M, SAx K H0 M0 σ env T H E M
/-- nothing is borrowed deep in a tree -/
noncomputable def Roots (T : List (V × Bw)) : Prop := ∀ v i π, (v, Bw.b i π) ∈ T → π = []
theorem Roots.nil : Roots [] := fun _ _ _ h => by cases h
theorem Roots.append {A B : List (V × Bw)} (a : Roots A) (b : Roots B) : Roots (A ++ B) := fun v i π h => (List.mem_append.mp h).elim (a v i π) (b v i π)
theorem Roots.one (v : V) (s : Sl) : Roots [(v, Bw.t s)] := fun w i π h => by simp at h
theorem Roots.of_gd {v : V} {x : Bw} (h : gd x false = true) : Roots [(v, x)] := fun w i π hm => by
  simp at hm
  obtain ⟨rfl, rfl⟩ := hm
  cases π with
  | nil => rfl
  | cons n π => cases h
/-- no slot but the ones in L is borrowed -/
noncomputable def noB (L : List Nat) (T : List (V × Bw)) : Prop := ∀ v i π, (v, Bw.b i π) ∈ T → i ∈ L
theorem noB.nil {L : List Nat} : noB L [] := fun _ _ _ h => by cases h
theorem noB.append {L : List Nat} {A B : List (V × Bw)} (a : noB L A) (b : noB L B) : noB L (A ++ B) := fun v i π h => (List.mem_append.mp h).elim (a v i π) (b v i π)
theorem noB.one {L : List Nat} (v : V) (s : Sl) : noB L [(v, Bw.t s)] := fun w i π h => by simp at h
theorem noB.not {L : List Nat} {T : List (V × Bw)} (h : noB L T) {i : Nat} (hi : i ∉ L) (v : V) (π : List Nat) : (v, Bw.b i π) ∉ T := fun hm => hi (h v i π hm)

theorem getD_set_ne {env : PEnv} {i j : Nat} {o : Option Sl} (e : j ≠ i) : (env.set j o).getD i none = env.getD i none := by
  simp [List.getD_eq_getElem?_getD, List.getElem?_set_ne e]
theorem getD_lt {env : PEnv} {i : Nat} {s : Sl} (h : env.getD i none = some s) : i < env.length := Nat.lt_of_not_le fun z => by
  rw [List.getD_eq_getElem?_getD, List.getElem?_eq_none z] at h
  cases h
theorem getD_set_self {env : PEnv} {i : Nat} {o : Option Sl} (h : i < env.length) : (env.set i o).getD i none = o := by
  simp [List.getD_eq_getElem?_getD, h]
theorem getD_set_some {env : PEnv} {i j : Nat} {s : Sl} (h : (env.getD i none).isSome) : ((env.set j (some s)).getD i none).isSome := by
  by_cases e : j = i
  · subst e
    by_cases hl : j < env.length
    · rw [getD_set_self hl]; rfl
    · rw [List.set_eq_of_length_le (by omega)]; exact h
  · rw [getD_set_ne e]; exact h
theorem setP_eq {env : PEnv} {i : Nat} {π : List Nat} {s t : Sl} (e : env.getD i none = some s) : setP env i π t = env.set i (some (s.put π t)) := by
  unfold setP; rw [e]
theorem setP_some {env : PEnv} {i j : Nat} {π : List Nat} {t : Sl} (h : (env.getD i none).isSome) : ((setP env j π t).getD i none).isSome := by
  unfold setP
  split
  · exact getD_set_some h
  · exact h
theorem slb_b {env : PEnv} {i : Nat} {π : List Nat} {s : Sl} (h : slb env (.b i π) = some s) : ∃ s0, env.getD i none = some s0 ∧ s0.sub π = some s := by
  simpa [slb, Option.bind_eq_some_iff] using h
theorem sub_nil {s : Sl} (h : s.isTpl = false) : s.sub [] = some s := Sl.sub_nil h
theorem sub_niln {s t : Sl} (h : s.sub [] = some t) : s = t := by cases s <;> simpa [Sl.sub] using h
theorem slb_t {env : PEnv} {s t : Sl} (h : slb env (.t s) = some t) : s = t := sub_niln h
theorem slb_nt {env : PEnv} {x : Bw} {s : Sl} (h : slb env x = some s) : s.isTpl = false := by
  cases x with
  | t s' => exact Sl.sub_tpl (π := []) h
  | b i π =>
    obtain ⟨s0, _, e2⟩ := slb_b h
    exact Sl.sub_tpl e2
theorem root_nt {s t : Sl} {π : List Nat} (e : s.sub π = some t) : s.isTpl = false := by cases s <;> first | rfl | (simp [Sl.sub] at e)
theorem put_nt {s : Sl} {π : List Nat} {p : PV} (h : s.isTpl = false) : (s.put π (.sh p)).isTpl = false := by cases π <;> cases s <;> first | rfl | cases h
theorem put_nil (s t : Sl) : s.put [] t = t := by cases s <;> rfl

section
variable {K : PySem.W.Frag} {H0 M0 M H : Hp} {σ : L2.St} {env : PEnv} {T A B : List (V × Bw)} {E : List (V × Sl)}
theorem SAx.sub (h : SAx K H0 M0 σ env T H E M) {T' : List (V × Bw)} (s : List.Sublist T' T) : SAx K H0 M0 σ env T' H E M :=
  ⟨h.lv, h.hyp.sublist (List.Sublist.append_left (s.filterMap ent) E), fun v i π hm => h.bor v i π (s.subset hm)⟩
theorem SA.sub (h : SA K H0 M0 σ env T H) {T' : List (V × Bw)} (s : List.Sublist T' T) : SA K H0 M0 σ env T' H :=
  let ⟨E, M, x⟩ := h; ⟨E, M, x.sub s⟩
theorem SA.left (h : SA K H0 M0 σ env (T ++ A) H) : SA K H0 M0 σ env T H := h.sub (List.sublist_append_left _ _)
/-- the middle is dropped -/
theorem SA.mid (h : SA K H0 M0 σ env (T ++ A ++ B) H) : SA K H0 M0 σ env (T ++ B) H := h.sub (List.Sublist.append_right (List.sublist_append_left _ _) _)
theorem SAx.same (h : SAx K H0 M0 σ env T H E M) : Same M H := h.hyp.sub
/-- a slot's tree, open at a path; what C holds may go into it -/
theorem SAx.path {C : List (V × Bw)} (h : SAx K H0 M0 σ env (T ++ C) H E M) {i : Nat} {π : List Nat} {s : Sl} (e : slb env (.b i π) = some s) :
    ∃ v0 v1 A1 AC, σ[i]? = some (some v0) ∧ Nd H v0 π v1 ∧ Tr K H0 M H v1 s A1 ∧ TrE K H0 M H (tents C) AC ∧ (A1 ++ AC).Nodup ∧
      ∀ {M' H' : Hp} {s' : Sl} {A' : List Addr}, Same M M' → Same M' H' → (∀ b o, M' b = some o → M b = some o ∨ (H b = none ∨ b ∈ A1 ++ AC) ∧ ntO o = true) → (∀ b o, b ∉ A1 ++ AC → H b = some o → H' b = some o) →
        Tr K H0 M' H' v1 s' A' → A'.Nodup → (∀ b ∈ A', b ∈ A1 ++ AC ∨ H b = none) → ∃ E', Lv σ (setP env i π s') E' ∧ Hyp K H0 M0 M' H' (E' ++ tents T) := by
  obtain ⟨s0, e1, e2⟩ := slb_b e
  obtain ⟨v0, E1, E2, h1, h2, h3, h4⟩ := h.lv.split e1
  have hp : Hyp K H0 M0 M H (((v0, s0) :: tents C) ++ (E1 ++ E2 ++ tents T)) := by
    refine h.hyp.perm ?_
    rw [h2, tents_append, List.append_assoc, List.cons_append, List.cons_append]
    refine List.perm_middle.trans (List.Perm.cons _ ?_)
    rw [← List.append_assoc, ← List.append_assoc]
    exact List.perm_append_comm
  obtain ⟨Af, tf, nf, k⟩ := hp.openAt
  obtain ⟨A, AC, rfl, tA, tC⟩ := tf.uncons
  obtain ⟨v1, A1, R, p, t1, nd, kz⟩ := tA.zip e2
  have n2 : ((A1 ++ R) ++ AC).Nodup := (p.append_right AC).nodup_iff.mp nf
  have dR1 : ∀ b ∈ R, b ∉ A1 ++ AC := fun b hb hm => by
    rcases List.mem_append.mp hm with q | q
    · exact nodup_disj (List.nodup_append.mp n2).1 q hb
    · exact nodup_disj n2 (List.mem_append_right _ hb) q
  have mR : ∀ b ∈ R, M b = none ∧ H0 b = none ∧ ∃ o, H b = some o ∧ trO o = true := fun b hb => Tr.mem tA b (p.mem_iff.mpr (List.mem_append_right _ hb))
  have sub1 : ∀ b, b ∈ A1 ++ AC → b ∈ A ++ AC := fun b hb => by
    rcases List.mem_append.mp hb with q | q
    · exact List.mem_append_left _ (p.mem_iff.mpr (List.mem_append_left _ q))
    · exact List.mem_append_right _ q
  refine ⟨v0, v1, A1, AC, h1, nd, t1, tC, ?_, fun {M' H' s' A'} sm sh nw ke t' n' fr => ?_⟩
  · refine List.Sublist.nodup ?_ n2
    exact List.Sublist.append_right (List.sublist_append_left _ _) _
  · obtain ⟨As', p', tAs⟩ := kz (H0' := H0) sm (fun b hb => by
      obtain ⟨m1, m2, o, m3, m4⟩ := mR b hb
      refine ⟨?_, m2, ?_⟩
      · cases z : M' b with
        | none => rfl
        | some o' =>
          rcases nw b o' z with q | ⟨q | q, _⟩
          · rw [m1] at q; cases q
          · rw [m3] at q; cases q
          · exact (dR1 b hb q).elim
      · rw [m3]; exact ke b o (dR1 b hb) m3) t'
    rw [setP_eq e1]
    refine ⟨_, h3 _, ?_⟩
    have := k (M' := M') (H' := H') (E1' := [(v0, s0.put π s')]) (A1' := As') sm sh (fun b o q => (nw b o q).imp_right (fun z => ⟨z.1.imp_right (sub1 b), z.2⟩)) (fun b o q w => ke b o (fun z => q (sub1 b z)) w) (TrE.one tAs) ?_ ?_
    · refine this.perm ?_
      simp only [List.cons_append, List.nil_append, List.append_assoc]
      exact List.perm_middle.symm
    · refine p'.nodup_iff.mpr (List.nodup_append.mpr ⟨n', ?_, fun x hx y hy e => ?_⟩)
      · exact (List.nodup_append.mp (List.nodup_append.mp n2).1).2.1
      · subst e
        obtain ⟨m1, m2, o, m3, m4⟩ := mR x hy
        rcases fr x hx with q | q
        · exact dR1 x hy q
        · rw [m3] at q; cases q
    · intro b hb
      rcases List.mem_append.mp (p'.mem_iff.mp hb) with q | q
      · exact (fr b q).imp_left (sub1 b)
      · exact .inl (List.mem_append_left _ (p.mem_iff.mpr (List.mem_append_right _ q)))
/-- what a value at hand is -/
theorem SAx.get (h : SAx K H0 M0 σ env T H E M) {v : V} {x : Bw} {s : Sl} (hm : (v, x) ∈ T) (hs : slb env x = some s) : SlOk K H0 M H v s := by
  refine ⟨?_, slb_nt hs⟩
  cases x with
  | t s' =>
    have e : s' = s := slb_t hs
    subst e
    exact h.hyp.get (e := (v, s')) (List.mem_append_right _ (List.mem_filterMap.mpr ⟨_, hm, rfl⟩))
  | b i π =>
    obtain ⟨v0, v1, A1, AC, h1, nd, t1, _⟩ := SAx.path (T := T) (C := []) (by rw [List.append_nil]; exact h) hs
    obtain ⟨w0, g1, g2, _⟩ := h.bor v i π hm
    rw [h1] at g1; cases g1
    cases nd.uniq g2
    exact ⟨A1, t1⟩
theorem SAx.var (h : SAx K H0 M0 σ env T H E M) {i : Nat} {s : Sl} (e : env.getD i none = some s) : ∃ v, σ[i]? = some (some v) ∧ TrOk K H0 M H v s := by
  obtain ⟨v, E1, E2, h1, h2, _⟩ := h.lv.split e
  exact ⟨v, h1, h.hyp.get (e := (v, s)) (List.mem_append_left _ (by rw [h2]; simp))⟩
theorem SAx.bors {T' : List (V × Bw)} {H' : Hp} (h : SAx K H0 M0 σ env T H E M) (sm : Same H H') (k : ∀ v i π, (v, Bw.b i π) ∈ T' → (v, Bw.b i π) ∈ T) :
    ∀ v i π, (v, Bw.b i π) ∈ T' → ∃ v0, σ[i]? = some (some v0) ∧ Nd H' v0 π v ∧ (env.getD i none).isSome := fun v i π hm => by
  obtain ⟨v0, g1, g2, g3⟩ := h.bor v i π (k v i π hm)
  exact ⟨v0, g1, g2.mono sm, g3⟩
theorem mem_snoc_t {v w : V} {i : Nat} {π : List Nat} {s : Sl} (h : (v, Bw.b i π) ∈ T ++ [(w, Bw.t s)]) : (v, Bw.b i π) ∈ T := by
  rcases List.mem_append.mp h with q | q
  · exact q
  · simp at q
/-- a shared value more -/
theorem SAx.push (h : SAx K H0 M0 σ env T H E M) {v : V} {p : PV} (r : Rep K M v p) : SA K H0 M0 σ env (T ++ [(v, .t (.sh p))]) H := by
  refine ⟨E, M, h.lv, ?_, h.bors (Same.refl H) fun w i π hm => mem_snoc_t hm⟩
  rw [tents_append, ← List.append_assoc]
  exact h.hyp.push r
/-- a slot's tree, or a part of it -/
theorem SAx.pushB (h : SAx K H0 M0 σ env T H E M) {v v0 : V} {i : Nat} {π : List Nat} (e : σ[i]? = some (some v0)) (nd : Nd H v0 π v) (e' : (env.getD i none).isSome) : SA K H0 M0 σ env (T ++ [(v, .b i π)]) H := by
  refine ⟨E, M, h.lv, ?_, fun w j ρ hm => ?_⟩
  · rw [tents_append]
    simpa [tents_b] using h.hyp
  · rcases List.mem_append.mp hm with q | q
    · exact h.bor w j ρ q
    · simp at q
      obtain ⟨rfl, rfl, rfl⟩ := q
      exact ⟨v0, e, nd, e'⟩
/-- a new tuple -/
theorem SAx.tup (h : SAx K H0 M0 σ env T H E M) {p : Addr} {vs : List V} {ps : List PV} (hp : H p = none) (r : Reps K M vs ps) :
    SA K H0 M0 σ env (T ++ [(.ref p, .t (.sh (.tup ps)))]) (upd H p (.tup vs)) := by
  refine ⟨E, upd M p (.tup vs), h.lv, ?_, h.bors (same_new hp) fun w i π hm => mem_snoc_t hm⟩
  rw [tents_append, ← List.append_assoc]
  exact h.hyp.allocT hp r
/-- a new tree -/
theorem SAx.alloc (h : SAx K H0 M0 σ env T H E M) {H' : Hp} {v : V} {s : Sl} {A : List Addr} (sm : Same H H') (t : Tr K H0 M H' v s A) (n : A.Nodup) (fr : ∀ b ∈ A, H b = none) : SA K H0 M0 σ env (T ++ [(v, .t s)]) H' := by
  refine ⟨E, M, h.lv, ?_, h.bors sm fun w i π hm => mem_snoc_t hm⟩
  rw [tents_append, ← List.append_assoc]
  exact h.hyp.alloc sm t n fr
theorem SAx.lst (h : SAx K H0 M0 σ env T H E M) {p : Addr} {vs : List V} {ps : List PV} (hp : H p = none) (r : Reps K M vs ps) :
    SA K H0 M0 σ env (T ++ [(.ref p, .t (.own ps))]) (upd H p (.lst vs)) := by
  refine ⟨E, M, h.lv, ?_, h.bors (same_new hp) fun w i π hm => mem_snoc_t hm⟩
  rw [tents_append, ← List.append_assoc]
  exact h.hyp.allocL hp r
theorem perm_mid (X A B : List (V × Sl)) (e : V × Sl) : (X ++ (A ++ e :: B)).Perm (e :: (X ++ (A ++ B))) := by
  rw [← List.append_assoc, ← List.append_assoc]
  exact List.perm_middle
theorem mem_mid_t {v w : V} {i : Nat} {π : List Nat} {s : Sl} {x : Bw} (h : (v, Bw.b i π) ∈ A ++ (w, Bw.t s) :: B) : (v, Bw.b i π) ∈ A ++ (w, x) :: B := by
  rcases List.mem_append.mp h with z | z
  · exact List.mem_append_left _ z
  · rcases List.mem_cons.mp z with z | z
    · simp at z
    · exact List.mem_append_right _ (List.mem_cons_of_mem _ z)
/-- a value at hand is shared from now on -/
theorem SA.fix {v : V} {x : Bw} {r : PV × PEnv} (h : SA K H0 M0 σ env (A ++ (v, x) :: B) H) (e : Me.fix env x = some r) : SA K H0 M0 σ r.2 (A ++ (v, .t (.sh r.1)) :: B) H := by
  obtain ⟨E, M, h⟩ := h
  cases x with
  | t s =>
    simp only [Me.fix, Option.some.injEq] at e
    subst e
    have q := h.hyp
    rw [tents_append, tents_t] at q
    obtain ⟨M', _, q'⟩ := (q.perm (perm_mid E (tents A) (tents B) _)).freeze
    refine ⟨E, M', h.lv, ?_, h.bors (Same.refl H) fun w i π hm => mem_mid_t hm⟩
    rw [tents_append, tents_t]
    exact q'.perm (perm_mid E (tents A) (tents B) _).symm
  | b i π =>
    classical
    simp only [Me.fix, Option.map_eq_some_iff] at e
    obtain ⟨s, e1, e2⟩ := e
    subst e2
    obtain ⟨v0, v1, A1, AC, h1, nd, t1, tC, n1, k⟩ := SAx.path (T := A ++ (v, .b i π) :: B) (C := []) (by rw [List.append_nil]; exact h) e1
    cases tC
    rw [List.append_nil] at k n1
    obtain ⟨w0, g1, g2, g3⟩ := h.bor v i π (by simp)
    rw [h1] at g1; cases g1
    cases nd.uniq g2
    have hs : Same M (fun b => if b ∈ A1 then H b else M b) := fun b o e => by
      have : b ∉ A1 := fun hb => by
        have := (Tr.mem t1 b hb).1
        rw [this] at e; cases e
      show (if b ∈ A1 then H b else M b) = _
      rw [if_neg this]; exact e
    have rp : Rep K (fun b => if b ∈ A1 then H b else M b) v s.pv := Tr.rep hs t1 fun b hb => if_pos hb
    obtain ⟨E', l', q'⟩ := k (M' := fun b => if b ∈ A1 then H b else M b) (H' := H) (s' := .sh s.pv) (A' := []) hs (fun b o e => by
      by_cases hb : b ∈ A1
      · exact (if_pos hb).symm.trans e
      · exact h.same b o ((if_neg hb).symm.trans e)) (fun b o e => by
      by_cases hb : b ∈ A1
      · obtain ⟨_, _, o', m3, m4⟩ := Tr.mem t1 b hb
        have e' := (if_pos hb).symm.trans e
        rw [m3] at e'; cases e'
        exact .inr ⟨.inr hb, trO_nt m4⟩
      · exact .inl ((if_neg hb).symm.trans e)) (fun b o _ e => e) (.sh rp) .nil (fun b hb => by cases hb)
    refine ⟨E', fun b => if b ∈ A1 then H b else M b, l', ?_, fun w j ρ hm => ?_⟩
    · rw [tents_append, tents_b] at q'
      rw [tents_append, tents_t]
      refine (q'.push rp).perm ?_
      rw [List.append_assoc, List.append_assoc]
      refine List.Perm.append_left _ (List.Perm.append_left _ ?_)
      exact List.perm_append_comm (l₁ := tents B) (l₂ := [(v, Sl.sh s.pv)])
    · obtain ⟨u0, u1, u2, u3⟩ := h.bor w j ρ (mem_mid_t hm)
      exact ⟨u0, u1, u2, setP_some u3⟩
theorem SA.fixs : ∀ {xs : List Bw} {vs : List V} {env : PEnv} {A : List (V × Bw)} {r : List PV × PEnv}, vs.length = xs.length → SA K H0 M0 σ env (A ++ vs.zip xs ++ B) H → Me.fixs env xs = some r →
    r.1.length = xs.length ∧ SA K H0 M0 σ r.2 (A ++ vs.zip (r.1.map fun p => Bw.t (.sh p)) ++ B) H
  | [], vs, env, A, r, hl, h, e => by
    simp only [Me.fixs, Option.some.injEq] at e
    subst e
    have : vs = [] := by simpa using hl
    subst this
    exact ⟨rfl, h⟩
  | x :: xs, vs, env, A, r, hl, h, e => by
    simp only [Me.fixs, Option.bind_eq_some_iff, Option.map_eq_some_iff] at e
    obtain ⟨r1, e1, r2, e2, rfl⟩ := e
    cases vs with
    | nil => simp at hl
    | cons v vs =>
      have h' : SA K H0 M0 σ env (A ++ (v, x) :: (vs.zip xs ++ B)) H := by simpa using h
      have h1 := h'.fix e1
      have h2 : SA K H0 M0 σ r1.2 ((A ++ [(v, .t (.sh r1.1))]) ++ vs.zip xs ++ B) H := by simpa using h1
      obtain ⟨l, h3⟩ := SA.fixs (by simpa using hl) h2 e2
      exact ⟨by simp [l], by simpa using h3⟩
/-- to be stored: the value leaves the hand -/
theorem SA.fixO {v : V} {x : Bw} {r : Sl × PEnv} (h : SA K H0 M0 σ env (A ++ (v, x) :: B) H) (e : Me.fixO env x = some r) : SA K H0 M0 σ r.2 (A ++ (v, .t r.1) :: B) H := by
  cases x with
  | t s =>
    simp only [Me.fixO, Option.some.injEq] at e
    subst e
    exact h
  | b i π =>
    simp only [Me.fixO, Option.map_eq_some_iff] at e
    obtain ⟨s, e1, e2⟩ := e
    subst e2
    exact h.fix (r := (s.pv, setP env i π (.sh s.pv))) (by simp only [Me.fix, e1, Option.map_some])
/-- to be handed back: a slot's tree goes out -/
theorem SA.take {v : V} {i : Nat} {s : Sl} (h : SA K H0 M0 σ env (A ++ (v, .b i []) :: B) H) (e : env.getD i none = some s) (hA : ∀ w π, (w, Bw.b i π) ∉ A) (hB : ∀ w π, (w, Bw.b i π) ∉ B) : SA K H0 M0 σ (env.set i none) (A ++ (v, .t s) :: B) H := by
  obtain ⟨E, M, h⟩ := h
  obtain ⟨v0, E1, E2, h1, h2, h3, h4⟩ := h.lv.split e
  obtain ⟨w0, g1, g2, g3⟩ := h.bor v i [] (by simp)
  rw [h1] at g1; cases g1
  cases g2
  refine ⟨E1 ++ E2, M, h4, ?_, fun w j ρ hm => ?_⟩
  · have q := h.hyp
    rw [tents_append, tents_b, h2] at q
    rw [tents_append, tents_t]
    refine q.perm ?_
    simp only [List.cons_append, List.append_assoc]
    refine List.Perm.append_left _ ?_
    have := (perm_mid E2 (tents A) (tents B) (v, s)).symm
    exact this
  · have hm' : (w, Bw.b j ρ) ∈ A ∨ (w, Bw.b j ρ) ∈ B := by
      rcases List.mem_append.mp hm with z | z
      · exact .inl z
      · rcases List.mem_cons.mp z with z | z
        · simp at z
        · exact .inr z
    have ne : i ≠ j := fun z => by
      subst z
      exact hm'.elim (hA w ρ) (hB w ρ)
    obtain ⟨u0, u1, u2, u3⟩ := h.bor w j ρ (by
      rcases hm' with z | z
      · exact List.mem_append_left _ z
      · exact List.mem_append_right _ (List.mem_cons_of_mem _ z))
    exact ⟨u0, u1, u2, by rw [getD_set_ne ne]; exact u3⟩
theorem SA.fixR {l : List Nat} {v : V} {x : Bw} {r : Sl × PEnv} (h : SA K H0 M0 σ env (A ++ [(v, x)]) H) (e : Me.fixR l env x = some r) (hA : noB l A) : SA K H0 M0 σ r.2 (A ++ [(v, .t r.1)]) H := by
  cases x with
  | t s =>
    simp only [Me.fixR, Option.some.injEq] at e
    subst e
    exact h
  | b i π =>
    cases π with
    | cons n π => exact h.fixO (B := []) e
    | nil =>
      change (if l.contains i then Me.fixO env (.b i []) else (env.getD i none).map fun s => (s, env.set i none)) = some r at e
      split at e
      · exact h.fixO (B := []) e
      · rename_i hc
        simp only [Option.map_eq_some_iff] at e
        obtain ⟨s, e1, rfl⟩ := e
        refine SA.take (B := []) h e1 (fun w π hm => ?_) (fun w π hm => by cases hm)
        exact hc (List.contains_iff_mem.mpr (hA w i π hm))
/-- a slot is stored -/
theorem SA.set {v : V} {s : Sl} {i : Nat} (h : SA K H0 M0 σ env (T ++ [(v, .t s)]) H) (hi : i < env.length) (hT : ∀ v π, (v, Bw.b i π) ∉ T) : SA K H0 M0 (σ.set i (some v)) (env.set i (some s)) T H := by
  obtain ⟨E, M, h⟩ := h
  obtain ⟨E1, Eo, E2, e, l⟩ := h.lv.store v s hi
  refine ⟨_, M, l, ?_, fun w j ρ hm => ?_⟩
  rotate_left
  · have ne : i ≠ j := fun e => by subst e; exact hT w ρ hm
    rw [List.getElem?_set_ne ne, getD_set_ne ne]
    exact h.bor w j ρ (List.mem_append_left _ hm)
  have q := h.hyp
  rw [tents_append, tents_t, e] at q
  have q2 : Hyp K H0 M0 M H ((E1 ++ E2) ++ (tents T ++ [(v, s)])) := by
    refine q.sublist (List.Sublist.append_right ?_ _)
    exact List.Sublist.append_right (List.sublist_append_left _ _) _
  refine q2.perm ?_
  rw [List.append_assoc, List.append_assoc, List.cons_append]
  refine List.Perm.append_left _ ?_
  rw [← List.append_assoc]
  exact (List.perm_append_comm (l₁ := E2 ++ tents T) (l₂ := [(v, s)]))
/-- a part of a tree is written (what is borrowed are whole slots) -/
theorem SAx.write {C : List (V × Bw)} (h : SAx K H0 M0 σ env (T ++ C) H E M) (ro : Roots T) {v : V} {i : Nat} {π : List Nat} {s : Sl} (e : slb env (.b i π) = some s) (hb : ∃ v0, σ[i]? = some (some v0) ∧ Nd H v0 π v) :
    ∃ A1 AC, Tr K H0 M H v s A1 ∧ TrE K H0 M H (tents C) AC ∧ (A1 ++ AC).Nodup ∧
      ∀ {H' : Hp} {s' : Sl} {A' : List Addr}, (∀ b o, b ∉ A1 ++ AC → H b = some o → H' b = some o) →
        Tr K H0 M H' v s' A' → A'.Nodup → (∀ b ∈ A', b ∈ A1 ++ AC ∨ H b = none) → SA K H0 M0 σ (setP env i π s') T H' := by
  obtain ⟨v0, v1, A1, AC, h1, nd, t1, tC, n1, k⟩ := h.path e
  obtain ⟨w0, g1, g2⟩ := hb
  rw [h1] at g1; cases g1
  cases nd.uniq g2
  refine ⟨A1, AC, t1, tC, n1, fun {H' s' A'} ke t' n' fr => ?_⟩
  have nM : ∀ b o, M b = some o → b ∉ A1 ++ AC := fun b o z hb => by
    rcases List.mem_append.mp hb with q | q
    · have := (Tr.mem t1 b q).1
      rw [this] at z; cases z
    · have := (TrE.mem tC b q).1
      rw [this] at z; cases z
  obtain ⟨E', l', q'⟩ := k (M' := M) (Same.refl M) (fun b o z => ke b o (nM b o z) (h.same b o z)) (fun b o z => .inl z) ke t' n' fr
  refine ⟨E', M, l', q', fun w j ρ hm => ?_⟩
  obtain ⟨u0, u1, u2, u3⟩ := h.bor w j ρ (List.mem_append_left _ hm)
  cases ro w j ρ hm
  cases u2
  exact ⟨_, u1, .nil, setP_some u3⟩
/-- a temporary owned list is written -/
theorem SAx.writeT {a : Addr} {ps ps' : List PV} {vs' : List V} (h : SAx K H0 M0 σ env (A ++ (.ref a, .t (.own ps)) :: B) H E M) (ro : Roots (A ++ B)) (r : Reps K M vs' ps') : SAx K H0 M0 σ env (A ++ (.ref a, .t (.own ps')) :: B) (upd H a (.lst vs')) E M := by
  have q := h.hyp
  rw [tents_append, tents_t] at q
  obtain ⟨A1, t1, n1, k⟩ := Hyp.openAt (E1 := [(.ref a, .own ps)]) (q.perm (perm_mid E (tents A) (tents B) _))
  obtain ⟨Aa, An, rfl, ta, tn⟩ := t1.uncons
  cases tn
  cases ta with
  | own m h0 hh r0 =>
    refine ⟨h.lv, ?_, fun w i π hm => ?_⟩
    · rw [tents_append, tents_t]
      refine Hyp.perm ?_ (perm_mid E (tents A) (tents B) _).symm
      refine k (M' := M) (H' := upd H a (.lst vs')) (E1' := [(.ref a, .own ps')]) (A1' := [a]) (Same.refl M) (fun b o e => ?_) (fun b o e => .inl e) (fun b o nb e => ?_) (TrE.one (.own m h0 upd_same r)) (by simp) (fun b hb => by simp at hb; simp [hb])
      · rw [upd_ne (ne_of_none e m)]; exact h.same b o e
      · rw [upd_ne (fun z => nb (by simp [z]))]; exact e
    · obtain ⟨u0, u1, u2, u3⟩ := h.bor w i π (mem_mid_t hm)
      have : (w, Bw.b i π) ∈ A ++ B := by
        rcases List.mem_append.mp hm with z | z
        · exact List.mem_append_left _ z
        · rcases List.mem_cons.mp z with z | z
          · simp at z
          · exact List.mem_append_right _ z
      cases ro w i π this
      cases u2
      exact ⟨_, u1, .nil, u3⟩
theorem SA.wipe1 {i : Nat} (h : SA K H0 M0 σ env T H) (hT : ∀ v π, (v, Bw.b i π) ∉ T) (x : Option V) : SA K H0 M0 (σ.set i x) (env.set i none) T H := by
  obtain ⟨E, M, h⟩ := h
  obtain ⟨E', s, _, l⟩ := h.lv.drop1 i
  refine ⟨E', M, l x, h.hyp.sublist (List.Sublist.append_right s _), fun w j ρ hm => ?_⟩
  have : i ≠ j := fun e => by subst e; exact hT w ρ hm
  rw [List.getElem?_set_ne this, getD_set_ne this]
  exact h.bor w j ρ hm
theorem Lv.congr : ∀ {σ σ' : L2.St} {env : PEnv} {E : List (V × Sl)}, Lv σ env E → σ.length = σ'.length → (∀ i, (env.getD i none).isSome → σ[i]? = σ'[i]?) → Lv σ' env E
  | _, [], _, _, .nil, _, _ => .nil
  | _, x :: σ', _, _, .nil, hl, _ => by simp at hl
  | _, [], _, _, .skip h, hl, _ => by simp at hl
  | _, [], _, _, .live h, hl, _ => by simp at hl
  | _, x :: σ', _, _, .skip h, hl, hc => .skip (h.congr (by simpa using hl) fun i hi => by simpa using hc (i + 1) (by simpa using hi))
  | _, x :: σ', _, _, .live h, hl, hc => by
    have e := hc 0 rfl
    simp at e
    subst e
    exact .live (h.congr (by simpa using hl) fun i hi => by simpa using hc (i + 1) (by simpa using hi))
theorem SA.congr {σ' : L2.St} (h : SA K H0 M0 σ env T H) (hl : σ.length = σ'.length) (hc : ∀ i, (env.getD i none).isSome → σ[i]? = σ'[i]?) : SA K H0 M0 σ' env T H := by
  obtain ⟨E, M, h⟩ := h
  exact ⟨E, M, h.lv.congr hl hc, h.hyp, fun w j ρ hm => by
    obtain ⟨u0, u1, u2, u3⟩ := h.bor w j ρ hm
    exact ⟨u0, by rw [← hc j u3]; exact u1, u2, u3⟩⟩
theorem SA.length (h : SA K H0 M0 σ env T H) : σ.length = env.length := let ⟨_, _, x⟩ := h; x.lv.length
/-- the block's own slots are forgotten -/
theorem SA.wipes : ∀ {vs : List Nat} {σ : L2.St} {env : PEnv}, SA K H0 M0 σ env T H → (∀ i ∈ vs, ∀ v π, (v, Bw.b i π) ∉ T) → SA K H0 M0 (wipe σ vs) (wipeE vs env) T H
  | [], _, _, h, _ => h
  | i :: vs, _, _, h, hT => (h.wipes fun j hj => hT j (List.mem_cons_of_mem _ hj)).wipe1 (hT i List.mem_cons_self) none
theorem wipeE_get : ∀ {vs : List Nat} {env : PEnv} {i : Nat}, i ∈ vs → ((wipeE vs env).getD i none).isSome = false
  | v :: vs, env, i, h => by
    unfold wipeE
    by_cases e : v = i
    · subst e
      by_cases hl : v < (wipeE vs env).length
      · simp [List.getD_eq_getElem?_getD, hl]
      · simp [List.getD_eq_getElem?_getD, hl]
    · rw [getD_set_ne e]
      exact wipeE_get (by simpa [Ne.symm e] using h)
theorem wipe_get : ∀ {vs : List Nat} {σ : L2.St} {i : Nat}, i ∉ vs → (wipe σ vs)[i]? = σ[i]?
  | [], _, _, _ => rfl
  | v :: vs, σ, i, h => by
    simp only [List.mem_cons, not_or] at h
    unfold wipe
    rw [List.getElem?_set_ne (Ne.symm h.1)]
    exact wipe_get h.2
theorem wipe_in : ∀ {vs : List Nat} {σ : L2.St} {i : Nat}, i ∈ vs → (wipe σ vs)[i]? = if i < σ.length then some none else none
  | v :: vs, σ, i, h => by
    unfold wipe
    by_cases e : v = i
    · subst e
      by_cases hl : v < σ.length
      · rw [if_pos hl, List.getElem?_set_self (by rw [wipe_length]; exact hl)]
      · rw [if_neg hl, List.getElem?_eq_none (by rw [List.length_set, wipe_length]; omega)]
    · rw [List.getElem?_set_ne e]
      exact wipe_in (by simpa [Ne.symm e] using h)
theorem wipe_eq {vs : List Nat} {σ σ' : L2.St} (hl : σ.length = σ'.length) (h : ∀ i, i ∉ vs → σ[i]? = σ'[i]?) : wipe σ vs = wipe σ' vs := by
  apply List.ext_getElem?
  intro i
  by_cases e : i ∈ vs
  · rw [wipe_in e, wipe_in e, hl]
  · rw [wipe_get e, wipe_get e]; exact h i e
/-- behind the block -/
theorem SA.unwipe {vs : List Nat} (h : SA K H0 M0 (wipe σ vs) env T H) (hT : ∀ i ∈ vs, ∀ v π, (v, Bw.b i π) ∉ T) : SA K H0 M0 σ (wipeE vs env) T H := by
  refine (h.wipes hT).congr (by rw [wipe_length, wipe_length]) fun i hi => ?_
  by_cases e : i ∈ vs
  · rw [wipeE_get e] at hi; cases hi
  · rw [wipe_get e, wipe_get e]
theorem SA.perm {T' : List (V × Bw)} (h : SA K H0 M0 σ env T H) (p : T.Perm T') : SA K H0 M0 σ env T' H := by
  obtain ⟨E, M, h⟩ := h
  exact ⟨E, M, h.lv, h.hyp.perm (List.Perm.append_left _ (p.filterMap ent)), fun v i π hm => h.bor v i π (p.mem_iff.mpr hm)⟩

/-! what a value at hand is -/
variable {v : V} {s : Sl}
theorem SlOk.rep (h : SlOk K H0 M H v s) (sm : Same M H) : Rep K H v s.pv := let ⟨⟨_, t⟩, _⟩ := h; Tr.rep sm t fun _ _ => rfl
theorem SlOk.lst {ps : List PV} (h : SlOk K H0 M H v s) (e : s.pv = .lst ps) (sm : Same M H) : ∃ a vs, v = .ref a ∧ SqL K H a vs ∧ Reps K H vs ps ∧ (s.strict = true → Reps K M vs ps) := by
  obtain ⟨⟨A, t⟩, nt⟩ := h
  cases t with
  | sh r =>
    have e' : _ = PV.lst ps := e
    subst e'
    cases r with
    | lst q r => exact ⟨_, _, rfl, Same.seq sm q, Reps.mono sm r, fun _ => r⟩
  | own m h0 hh r =>
    simp only [Sl.pv, PV.lst.injEq] at e
    subst e
    exact ⟨_, _, rfl, .of hh, Reps.mono sm r, fun _ => r⟩
  | nst m h0 hh r =>
    simp only [Sl.pv, PV.lst.injEq] at e
    subst e
    exact ⟨_, _, rfl, .of hh, Trs.rep sm r fun _ _ => rfl, fun z => by cases z⟩
  | dK => cases e
  | dT => cases e
  | ins => cases e
  | tpl => cases e
/-- no list, dict, instance at the top -/
noncomputable def PV.plain : PV → Bool
  | .lst _ => false | .dct _ _ => false | .obj _ _ _ => false | _ => true
theorem SlOk.sh {p : PV} (h : SlOk K H0 M H v s) (e : s.pv = p) (n : p.plain = true) : Rep K M v p := by
  obtain ⟨⟨A, t⟩, nt⟩ := h
  cases t with
  | sh r => have e' : _ = p := e; subst e'; exact r
  | own => subst e; cases n
  | nst => subst e; cases n
  | dK => subst e; cases n
  | dT => subst e; cases n
  | ins => subst e; cases n
  | tpl => cases nt
theorem SlOk.tup {ps : List PV} (h : SlOk K H0 M H v s) (e : s.pv = .tup ps) (sm : Same M H) : ∃ a vs, v = .ref a ∧ H a = some (.tup vs) ∧ Reps K M vs ps := by
  cases h.sh e rfl with
  | tup q r => exact ⟨_, _, rfl, sm _ _ q, r⟩
theorem SlOk.int {i : Int} (h : SlOk K H0 M H v s) (e : s.pv = .int i) : v = .int i := by
  cases h.sh e rfl; rfl
theorem SlOk.bl {i : Bool} (h : SlOk K H0 M H v s) (e : s.pv = .bl i) : v = .bl i := by
  cases h.sh e rfl; rfl
theorem SlOk.str {i : Str} (h : SlOk K H0 M H v s) (e : s.pv = .str i) : v = .str i := by
  cases h.sh e rfl; rfl
theorem SlOk.non (h : SlOk K H0 M H v s) (e : s.pv = .non) : v = .non := by
  cases h.sh e rfl; rfl
theorem pvb_sl {x : Bw} {p : PV} (e : pvb env x = some p) : ∃ s, slb env x = some s ∧ s.pv = p := by
  simpa [pvb, Option.map_eq_some_iff] using e
end
end Me
/-! Me4d: sorted of lists of tuples. -/
namespace Me
open PySem PySem.Spec PyProof.Rows L2
open NdefX (TabsN NTab TabN)
open LamX (CodeO TabB ExtN)
variable [Reg]
theorem eachIs_of_vals : ∀ {xs : List V} {us : List Value} {ps : List PyData}, Vals xs us → ps.length = xs.length → PySem.W.EachIs (fun u (b : V × PyData) => L2.RelV b.1 u) us (xs.zip ps)
  | _, _, _, .nil, _ => by rw [List.zip_nil_left]; exact .nil
  | _, _, [], .cons h t, e => by simp at e
  | _, _, p :: ps, .cons h t, e => .cons h (eachIs_of_vals t (by simpa using e))
theorem vals_of_eachIs {β : Type} {g : β → V} : ∀ {us : List Value} {bs : List β}, PySem.W.EachIs (fun u b => L2.RelV (g b) u) us bs → Vals (bs.map g) us
  | _, _, .nil => .nil
  | _, _, .cons h t => .cons h (vals_of_eachIs t)
theorem each_and {α β : Type} {R S : α → β → Prop} : ∀ {as : List α} {bs : List β}, PySem.W.EachIs R as bs → (∀ b ∈ bs, ∀ a, R a b → S a b) → PySem.W.EachIs S as bs
  | _, _, .nil, _ => .nil
  | _, _, .cons h t, f => .cons (f _ List.mem_cons_self _ h) (each_and t fun b hb => f b (List.mem_cons_of_mem _ hb))
theorem dpAll_len {K : PySem.W.Frag} {H : Hp} : ∀ {vs : List V} {ds : List PyData}, DpAll K H vs ds → ds.length = vs.length
  | _, _, .nil => rfl
  | _, _, .cons _ t => congrArg (· + 1) (dpAll_len t)
theorem dpAll_zip {K : PySem.W.Frag} {H : Hp} : ∀ {vs : List V} {ds : List PyData}, DpAll K H vs ds → ∀ b ∈ vs.zip ds, Dp K H b.1 b.2
  | _, _, .nil, b, hb => by cases hb
  | _, _, .cons h t, b, hb => by
    rcases List.mem_cons.mp (by simpa using hb) with rfl | hb
    · exact h
    · exact dpAll_zip t b hb
theorem zip_snd_mem {α β : Type} : ∀ {as : List α} {bs : List β} {b : α × β}, b ∈ as.zip bs → b.2 ∈ bs
  | [], bs, b, h => by simp at h
  | a :: as, [], b, h => by simp at h
  | a :: as, c :: bs, b, h => by
    rcases List.mem_cons.mp (by simpa using h) with rfl | h
    · exact List.mem_cons_self
    · exact List.mem_cons_of_mem _ (zip_snd_mem h)
/-- sorted of data -/
noncomputable def rSortedD (K : PySem.W.Frag) : List V → Hp → VK → Prop := fun vs H Q => ∃ (a : Addr) (xs : List V) (ds : List PyData), vs = [V.ref a] ∧ SqL K H a xs ∧ DpAll K H xs ds ∧ PySem.W.AllAlike ds ∧ PySem.W.Sortable ds ∧ (∀ d ∈ ds, d.depth ≤ 60) ∧
  ∀ (p : Addr), H p = none → Q (.ref p) (upd H p (.lst (((xs.zip ds).mergeSort (PySem.W.dataLe false Prod.snd)).map Prod.fst)))
theorem zip_snd {α β : Type} : ∀ {as : List α} {bs : List β}, bs.length = as.length → (as.zip bs).map Prod.snd = bs
  | [], [], _ => rfl
  | a :: as, b :: bs, e => by
    show b :: (as.zip bs).map Prod.snd = _
    rw [zip_snd (by simpa using e)]
  | [], _ :: _, e => by simp at e
  | _ :: _, [], e => by simp at e
/-- the heap behind a sort: what stood stands, the sorted list is the second new thing -/
theorem sortedAll_keep {h : Heap} {vs : List Value} {out : Array Value} {b : Addr} {o : Obj} (e : h.get? b = some o) : (sortedAll h vs out).get? b = some o := by
  have ne : ∀ m : Nat, h.objs.size ≤ m → b ≠ m := fun m q => Nat.ne_of_lt (Nat.lt_of_lt_of_le (Heap.lt_size e) q)
  unfold sortedAll sortedHeap
  rw [Heap.get?_update_ne _ _ _ _ (ne _ (Nat.le_succ _)), Heap.get?_push_ne _ _ _ (ne _ (by simp only [Heap.size_push, Heap.size_update]; omega)), Heap.get?_push_ne _ _ _ (ne _ (by simp only [Heap.size_push, Heap.size_update]; omega)), Heap.get?_update_ne _ _ _ _ (ne _ (Nat.le_succ _)), Heap.get?_push_ne _ _ _ (ne _ (by simp only [Heap.size_push, Heap.size_update]; omega)), Heap.get?_update_ne _ _ _ _ (ne _ (Nat.le_refl _)), Heap.get?_push_ne _ _ _ (ne _ (Nat.le_refl _))]
  exact e
theorem sortedAll_new {h : Heap} {vs : List Value} {out : Array Value} : ∃ n, (sortedAll h vs out).get? (h.objs.size + 1) = some { cls := .type "list", data := .seq out n } := by
  have z : ((h.push (seqObj "list" #[] 0)).update h.objs.size (Obj.mapSeq fun x => x ++ vs.toArray)).objs.size = h.objs.size + 1 := by rw [Heap.size_update, Heap.size_push]
  have g1 := Heap.get?_push_size ((h.push (seqObj "list" #[] 0)).update h.objs.size (Obj.mapSeq fun x => x ++ vs.toArray)) (o := seqObj "list" vs.toArray 0) rfl
  rw [z] at g1
  have g2 := Heap.get?_update_self (Obj.mapSeq fun _ => #[]) g1 rfl
  have g3 := Heap.get?_push_of_some (seqObj "list" #[] 0) (Heap.get?_push_of_some (seqObj "tuple" vs.toArray 0) g2)
  have g4 := Heap.get?_update_self (Obj.mapSeq fun _ => out) g3 rfl
  exact ⟨_, g4⟩
theorem cr_sortedD {X : Cx} (hu : X.A.units + 64 < cLine) : CallR X (.builtin "sorted") (rSortedD X.K) := by
  intro pins s σ H vs us Q I r h
  obtain ⟨a, xs, ds, rfl, hq, hd, h1, h2, h3, q⟩ := h
  obtain ⟨its, rv, pt, hz⟩ := I.list hq
  rw [Vals.ref1 r]
  have ln := dpAll_len hd
  have e1 := eachIs_of_vals rv ln
  have lz : (xs.zip ds).length = xs.length := by rw [List.length_zip, ln, Nat.min_self]
  refine PySem.W.sorted_data (enc := Prod.snd) (bs := xs.zip ds) (R := fun u (b : V × PyData) => L2.RelV b.1 u) (show s.heap.IsList a its.toArray from pt.isList) e1 (each_and e1 fun b hb u hr => Dp.reads I b.2 b.1 u (dpAll_zip hd b hb) hr) ?_ ?_ (by rw [lz]; exact hz) (fun b hb => ?_) fun out lo eo => ?_
  · rw [zip_snd ln]; exact h1
  · rw [zip_snd ln]; exact h2
  · have := h3 b.2 (zip_snd_mem hb)
    omega
  · obtain ⟨n, e⟩ := sortedAll_new (h := s.heap) (vs := its) (out := out.toArray)
    refine ⟨.ref _, _, I.laid (o := .lst (((xs.zip ds).mergeSort (PySem.W.dataLe false Prod.snd)).map Prod.fst)) (fun b o e => sortedAll_keep e) (Nat.le_succ _) ?_, rfl, q _ (I.hok.fresh (Nat.le_succ _))⟩
    exact ⟨by rw [List.length_map, List.length_mergeSort, lz]; exact hz, out, n, vals_of_eachIs eo, e⟩
end Me
/-! Me5: each operation and expression does what the pure reading says. -/
namespace Me
open PySem PySem.Spec PyProof.Rows L2
open NdefX (TabsN NTab TabN)
open LamX (CodeO TabB ExtN)
variable [Reg]

theorem lim_eq : lim = sizeLine := by rw [sizeLine_eq]; rfl
theorem le_line {n : Nat} (h : n ≤ lim) : n ≤ sizeLine := by rw [← lim_eq]; exact h

section
variable {X : Cx}
theorem PE_imp {e : Expr} {t t' : TE} (h : PE X e t) (i : ∀ σ H Q, t' σ H Q → t σ H Q) : PE X e t' := ⟨fun pins s σ H Q I q => h.run pins s σ H Q I (i _ _ _ q)⟩
theorem PT_imp {e : Expr} {t t' : TT} (h : PT X e t) (i : ∀ σ H Q, t' σ H Q → t σ H Q) : PT X e t' := ⟨fun pins s σ H Q I q => h.run pins s σ H Q I (i _ _ _ q)⟩
theorem PA_imp {e : List Expr} {t t' : TA} (h : PA X e t) (i : ∀ σ H Q, t' σ H Q → t σ H Q) : PA X e t' := ⟨fun pos pins s σ H Q I q => h.run pos pins s σ H Q I (i _ _ _ q)⟩
theorem PO_imp {e : Option Expr} {t t' : TO} (h : PO X e t) (i : ∀ σ H Q, t' σ H Q → t σ H Q) : PO X e t' := ⟨fun pins s σ H Q I q => h.run pins s σ H Q I (i _ _ _ q)⟩
theorem PS_imp {e : Stmt} {t t' : TS} (h : PS X e t) (i : ∀ D σ H, t' D σ H → t D σ H) : PS X e t' := ⟨fun pins s σ H D I q => h.run pins s σ H D I (i _ _ _ q)⟩
theorem PSs_imp {e : List Stmt} {t t' : TS} (h : PSs X e t) (i : ∀ D σ H, t' D σ H → t D σ H) : PSs X e t' := ⟨fun pins s σ H D I q => h.run pins s σ H D I (i _ _ _ q)⟩
theorem PI_imp {tg e : Expr} {t t' : TI} (h : PI X tg e t) (i : ∀ σ H R, t' σ H R → t σ H R) : PI X tg e t' := ⟨fun pins s σ H R I q => h.run pins s σ H R I (i _ _ _ q)⟩
theorem PI_or {tg e : Expr} {t t' : TI} (h : PI X tg e t) (h' : PI X tg e t') : PI X tg e (fun σ H R => t σ H R ∨ t' σ H R) :=
  ⟨fun pins s σ H R I q => q.elim (h.run pins s σ H R I) (h'.run pins s σ H R I)⟩
end

theorem wp_addL {prog : Program} {w : World} {A : Around} {E : Value → Shared → Prop} {s : Shared} {l b : Addr} {vs ws : List Value} {Q : Value → Shared → Prop} (hl : s.heap.IsList l vs.toArray) (hb : s.heap.IsList b ws.toArray)
    (hsz : vs.length + ws.length ≤ sizeLine) (h : Q (.ref s.heap.objs.size) { s with heap := s.heap.push { cls := .type "list", data := .seq (vs ++ ws).toArray } }) :
    wpAny (model prog w) A (binaryOp .Add (.ref l) (.ref b)) Q E s := by
  obtain ⟨⟨cls, dd, data, sl⟩, ho, hc, n, hd⟩ := id hl
  obtain ⟨⟨cls2, dd2, data2, sl2⟩, ho2, hc2, n2, hd2⟩ := id hb
  simp only at hc hd hc2 hd2
  subst hc hd hc2 hd2
  have e : vs.toArray ++ ws.toArray = (vs ++ ws).toArray := by simp
  refine concat_meets ⟨_, ho, rfl⟩ ⟨_, ho2, rfl⟩ noFill_list_add seq_list_add PySem.F.slot_list_add PySem.F.entry_list_add (PySem.F.args_list_add_2 _ _) (list_addW l b vs.toArray ws.toArray n n2 dd dd2 sl sl2 (by simpa using hsz)) ⟨ho, ho2, ?_⟩
  rw [e]
  exact h
noncomputable def rCatL (K : PySem.W.Frag) : R2 := fun x y H Q => ∃ a b xs ys, x = .ref a ∧ y = .ref b ∧ SqL K H a xs ∧ SqL K H b ys ∧ xs.length + ys.length ≤ sizeLine ∧ ∀ p, H p = none → Q (.ref p) (upd H p (.lst (xs ++ ys)))
theorem op_catL {X : Cx} : OpR X (binaryOp .Add) (rCatL X.K) := by
  intro pins s σ H x y v u Q I rx ry h
  obtain ⟨a, b, xs, ys, rfl, rfl, ha, hb, hz, q⟩ := h
  cases rx
  cases ry
  obtain ⟨its, r1, p1, _⟩ := I.list ha
  obtain ⟨its2, r2, p2, _⟩ := I.list hb
  refine wp_addL p1.isList p2.isList (by rw [← r1.length, ← r2.length]; exact hz) ?_
  exact ⟨.ref _, _, I.lnew (t' := s.toks) (r1.append r2) (by rw [List.length_append]; omega), rfl, q _ I.fresh⟩

/-! ### readings by the pure evaluator -/
noncomputable def tE (K : PySem.W.Frag) (c : Bool) (f : PEnv → Option (Bw × PEnv)) : TE := fun σ H Q => ∃ H0 M0 env T r, f env = some r ∧ SA K H0 M0 σ env T H ∧ (c = false → Roots T) ∧ ∀ v H', SA K H0 M0 σ r.2 (T ++ [(v, r.1)]) H' → Q v H'
noncomputable def tTs (K : PySem.W.Frag) (c : Bool) (f : PEnv → Option (Bool × PEnv)) : TT := fun σ H Q => ∃ H0 M0 env T r, f env = some r ∧ SA K H0 M0 σ env T H ∧ (c = false → Roots T) ∧ ∀ H', SA K H0 M0 σ r.2 T H' → Q r.1 H'
noncomputable def tAs (K : PySem.W.Frag) (c : Bool) (f : PEnv → Option (List Bw × PEnv)) : TA := fun σ H Q => ∃ H0 M0 env T r, f env = some r ∧ SA K H0 M0 σ env T H ∧ (c = false → Roots T) ∧ ∀ vs H', vs.length = r.1.length → SA K H0 M0 σ r.2 (T ++ vs.zip r.1) H' → Q vs H'
noncomputable def tOs (K : PySem.W.Frag) (c : Bool) (f : PEnv → Option (Option Int × PEnv)) : TO := fun σ H Q => ∃ H0 M0 env T r, f env = some r ∧ SA K H0 M0 σ env T H ∧ (c = false → Roots T) ∧ ∀ H', SA K H0 M0 σ r.2 T H' → Q r.1 H'

/-! ### operations -/
section
variable {X : Cx} {pins : List (Addr × Obj)} {s : Shared} {σ ρ : L2.St} {H H0 M0 M : Hp} {x y : V} {v u : Value} {Q : VK} {env : PEnv} {T : List (V × Bw)} {E : List (V × Sl)} {s1 s2 z : Sl}
theorem small_iff {i : Int} (h : small i = true) : -(2 ^ 64) < i ∧ i < 2 ^ 64 := of_decide_eq_true h
theorem repS_len {s : Str} {j : Int} (h : j.toNat ≤ 1000) (hs : s.length ≤ 1000) : (repS s j).length ≤ sizeLine := by
  have e : ∀ (n : Nat) (a : Array Nat), ((List.replicate n s.cps).foldl (· ++ ·) a).size = a.size + n * s.cps.size := by
    intro n
    induction n with
    | zero => intro a; rw [List.replicate_zero, List.foldl_nil, Nat.zero_mul, Nat.add_zero]
    | succ n ih => intro a; rw [List.replicate_succ, List.foldl_cons, ih, Array.size_append, Nat.succ_mul]; omega
  show ((List.replicate j.toNat s.cps).foldl (· ++ ·) #[]).size ≤ sizeLine
  rw [e, sizeLine_eq]
  have : j.toNat * s.cps.size ≤ 1000 * 1000 := Nat.mul_le_mul h hs
  simp only [List.size_toArray, List.length_nil]
  omega
theorem op_mul_str : OpR X (binaryOp .Mult) (fun x y H Q => ∃ i j, x = .str i ∧ y = .int j ∧ (0 ≤ j ∧ j ≤ 1000 ∧ i.length ≤ 1000) ∧ Q (.str (repS i j)) H) := by
  intro pins s σ H x y v u Q I rx ry h
  obtain ⟨i, j, rfl, rfl, ⟨h0, h1, h2⟩, q⟩ := h
  obtain ⟨t, rfl⟩ := rx
  obtain ⟨t', rfl⟩ := ry
  have hl := repS_len (s := i) (j := j) (by omega) h2
  refine P.mul_str (x := i) ?_ ?_ ?_ ?_
  · have a : ¬ j < -(2 ^ 63 : Int) := by omega
    have b : ¬ j ≥ 2 ^ 63 := by omega
    rw [decide_eq_false a, decide_eq_false b]; rfl
  · intro a _
    have : (i.length : Int) ≤ (2 ^ 63 - 1) / j := by
      refine Int.le_ediv_of_mul_le (by omega) ?_
      have : (i.length : Int) * j ≤ 1000 * 1000 := Int.mul_le_mul (by omega) h1 h0 (by decide)
      omega
    omega
  · intro _ _
    have : i.length * j.toNat ≤ 1000 * 1000 := Nat.mul_le_mul h2 (by omega)
    unfold Builtin.Str.tooLong
    rw [sizeLine_eq]
    exact decide_eq_false (by omega)
  · by_cases a : j < 1
    · have : j = 0 := by omega
      subst this
      rw [if_pos a]
      exact ⟨by decide, ⟨.str _, H, I.tok _, ⟨_, rfl⟩, q⟩⟩
    · rw [if_neg a]
      by_cases b : (j == 1 || i.length == 0) = true
      · rw [if_pos b]
        have e : repS i j = i := by
          rcases Bool.or_eq_true_iff.mp b with c | c
          · have : j = 1 := by simpa using c
            subst this
            show (⟨#[] ++ i.cps⟩ : Str) = i
            rw [Array.empty_append]
          · have c1 : i.length = 0 := eq_of_beq c
            have c : i.cps = #[] := Array.eq_empty_of_size_eq_zero c1
            have e2 : ∀ (n : Nat), (List.replicate n i.cps).foldl (· ++ ·) #[] = #[] := by
              intro n
              rw [c]
              induction n with
              | zero => rfl
              | succ n ih => rw [List.replicate_succ, List.foldl_cons]; exact ih
            show (⟨(List.replicate j.toNat i.cps).foldl (· ++ ·) #[]⟩ : Str) = i
            rw [e2, ← c]
        rw [e] at q
        exact ⟨.str i, H, I, ⟨_, rfl⟩, q⟩
      · rw [if_neg b]
        exact ⟨hl, ⟨.str (repS i j), H, I.tok _, ⟨_, rfl⟩, q⟩⟩
theorem op_bin {op : Operator} (I : Inv X pins σ H s) (rx : RelV x v) (ry : RelV y u) (h : SAx X.K H0 M0 ρ env T H E M) (hx : SlOk X.K H0 M H x s1) (hy : SlOk X.K H0 M H y s2) (st : s1.strict = true ∧ s2.strict = true) (e : bin2 op s1.pv s2.pv = some z)
    (k : ∀ v H', SA X.K H0 M0 ρ env (T ++ [(v, .t z)]) H' → Q v H') : wpAny (model X.prog X.w) X.A (binaryOp op v u) (EP X pins σ Q) X.xe s := by
  have fi : ∀ n : Int, z = .sh (.int n) → Q (.int n) H := fun n e => by subst e; exact k _ _ (h.push (.int n))
  unfold bin2 at e
  split at e
  · rename_i i j e1 e2
    cases e
    exact op_add pins s σ H x y v u Q I rx ry ⟨i, j, hx.int e1, hy.int e2, fi _ rfl⟩
  · rename_i a b e1 e2
    split at e
    · rename_i hl
      cases e
      exact op_add_str pins s σ H x y v u Q I rx ry ⟨a, b, hx.str e1, hy.str e2, le_line hl, k _ _ (h.push (.str _))⟩
    · cases e
  · rename_i xs ys e1 e2
    split at e
    · rename_i hl
      cases e
      obtain ⟨a, vs, rfl, h1, _, r1⟩ := hx.lst e1 h.same
      obtain ⟨b, ws, rfl, h2, _, r2⟩ := hy.lst e2 h.same
      have r1 := r1 st.1
      have r2 := r2 st.2
      exact op_catL pins s σ H _ _ v u Q I rx ry ⟨a, b, vs, ws, rfl, rfl, h1, h2, by rw [r1.length, r2.length]; exact le_line hl, fun p hp => k _ _ (h.lst hp (r1.append r2))⟩
    · cases e
  · rename_i xs ys e1 e2
    split at e
    · rename_i hl
      cases e
      obtain ⟨a, vs, rfl, h1, r1⟩ := hx.tup e1 h.same
      obtain ⟨b, ws, rfl, h2, r2⟩ := hy.tup e2 h.same
      refine op_catA pins s σ H _ _ v u Q I rx ry ⟨a, b, vs, ws, rfl, rfl, .of h1, .of h2, by rw [r1.length, r2.length]; exact le_line hl, fun z => ?_, fun z1 z2 => ?_, fun _ _ p hp => ?_⟩
      · subst z
        cases r1
        exact k _ _ (h.push (hy.sh e2 rfl))
      · subst z2
        cases r2
        rw [List.append_nil] at k
        exact k _ _ (h.push (hx.sh e1 rfl))
      · exact k _ _ (h.tup hp (r1.append r2))
    · cases e
  · rename_i i j e1 e2
    cases e
    exact op_sub pins s σ H x y v u Q I rx ry ⟨i, j, hx.int e1, hy.int e2, fi _ rfl⟩
  · rename_i i j e1 e2
    split at e
    · rename_i hl
      cases e
      refine op_mul pins s σ H x y v u Q I rx ry ⟨i, j, hx.int e1, hy.int e2, ?_, fi _ rfl⟩
      rcases Bool.or_eq_true_iff.mp hl with q | q
      · exact .inl (small_iff q)
      · exact .inr (small_iff q)
    · cases e
  · rename_i i j e1 e2
    split at e
    · rename_i hl
      cases e
      exact op_modN pins s σ H x y v u Q I rx ry ⟨i, j, hx.int e1, hy.int e2, hl, fi _ rfl⟩
    · cases e
  · rename_i i j e1 e2
    split at e
    · rename_i hl
      cases e
      exact op_fdivN pins s σ H x y v u Q I rx ry ⟨i, j, hx.int e1, hy.int e2, hl, fi _ rfl⟩
    · cases e
  · rename_i i j e1 e2
    split at e
    · rename_i hl
      cases e
      exact op_pow pins s σ H x y v u Q I rx ry ⟨i, j, hx.int e1, hy.int e2, hl, fi _ rfl⟩
    · cases e
  · rename_i i j e1 e2
    split at e
    · rename_i hl
      cases e
      exact op_shl pins s σ H x y v u Q I rx ry ⟨i, j, hx.int e1, hy.int e2, hl, fi _ rfl⟩
    · cases e
  · rename_i i j e1 e2
    split at e
    · rename_i hl
      cases e
      exact op_shr pins s σ H x y v u Q I rx ry ⟨i, j, hx.int e1, hy.int e2, hl, fi _ rfl⟩
    · cases e
  · rename_i i j e1 e2
    cases e
    exact op_and pins s σ H x y v u Q I rx ry ⟨i, j, hx.int e1, hy.int e2, fi _ rfl⟩
  · rename_i i j e1 e2
    cases e
    exact op_or pins s σ H x y v u Q I rx ry ⟨i, j, hx.int e1, hy.int e2, fi _ rfl⟩
  · rename_i i j e1 e2
    cases e
    exact op_xor pins s σ H x y v u Q I rx ry ⟨i, j, hx.int e1, hy.int e2, fi _ rfl⟩
  · rename_i a j e1 e2
    split at e
    · rename_i hl
      cases e
      exact op_mul_str pins s σ H x y v u Q I rx ry ⟨a, j, hx.str e1, hy.int e2, hl, k _ _ (h.push (.str _))⟩
    · cases e
  · cases e
theorem flV_ok {K : PySem.W.Frag} {x : V} {p : PV} {v : V} (h : Rep K M x p) (e : flV p = some v) : x = v ∧ flatV x = true := by
  cases h <;> simp [flV] at e <;> (subst e; exact ⟨rfl, rfl⟩)
theorem flVs_ok {K : PySem.W.Frag} : ∀ {xs : List V} {ps : List PV} {vs : List V}, Reps K M xs ps → flVs ps = some vs → xs = vs ∧ xs.all flatV = true
  | _, _, _, .nil, e => by simp [flVs] at e; subst e; exact ⟨rfl, rfl⟩
  | _, _, _, .cons h t, e => by
    simp only [flVs, Option.bind_eq_some_iff, Option.map_eq_some_iff] at e
    obtain ⟨v, e1, vs, e2, rfl⟩ := e
    obtain ⟨rfl, f1⟩ := flV_ok h e1
    obtain ⟨rfl, f2⟩ := flVs_ok t e2
    exact ⟨rfl, by simp [f1, f2]⟩
/-- what a value is as data -/
theorem eqS_ok {a b : PV} {c : Bool} (hx : Rep X.K M x a) (hy : Rep X.K M y b) (e : eqS a b = some c) : scal x y = true ∧ decide (x = y) = c := by
  cases hx <;> cases hy <;> simp only [eqS, Option.some.injEq, reduceCtorEq] at e <;> subst e <;> simp [scal]
mutual
theorem toD_ok {K : PySem.W.Frag} : ∀ {p : PV} {x : V} {d : PyData}, Rep K H x p → toD p = some d → Dp K H x d
  | _, _, _, .non, e => by unfold toD at e; cases e; exact .non
  | _, _, _, .bl b, e => by unfold toD at e; cases e; exact .bl b
  | _, _, _, .int i, e => by unfold toD at e; cases e; exact .int i
  | _, _, _, .str z, e => by unfold toD at e; cases e; exact .str z
  | .tup ps, _, _, .tup h r, e => by
    unfold toD at e
    simp only [Option.map_eq_some_iff] at e
    obtain ⟨ds, e1, rfl⟩ := e
    rw [List.mapM_subtype (g := fun p => toD p) (by simp)] at e1
    exact .tup (.of h) (toDs_ok r (by simpa using e1))
  | .dct _ _, _, _, _, e => by unfold toD at e; cases e
  | .obj _ _ _, _, _, _, e => by unfold toD at e; cases e
  | .fn _ _, _, _, _, e => by unfold toD at e; cases e
  | .exc _ _ _, _, _, _, e => by unfold toD at e; cases e
  | .adr _, _, _, _, e => by unfold toD at e; cases e
  | .lst ps, _, _, .lst h r, e => by
    unfold toD at e
    simp only [Option.map_eq_some_iff] at e
    obtain ⟨ds, e1, rfl⟩ := e
    rw [List.mapM_subtype (g := fun p => toD p) (by simp)] at e1
    exact .lst h (toDs_ok r (by simpa using e1))
theorem toDs_ok {K : PySem.W.Frag} : ∀ {ps : List PV} {xs : List V} {ds : List PyData}, Reps K H xs ps → ps.mapM toD = some ds → DpAll K H xs ds
  | _, _, _, .nil, e => by simp at e; subst e; exact .nil
  | _, _, _, .cons h r, e => by
    simp only [List.mapM_cons, Option.bind_eq_bind, Option.bind_eq_some_iff, Option.pure_def, Option.some.injEq] at e
    obtain ⟨d, e1, ds, e2, rfl⟩ := e
    exact .cons (toD_ok h e1) (toDs_ok r e2)
end
theorem eq2_ok (hu : X.A.units + 65 < cLine) (I : Inv X pins σ H s) (rx : RelV x v) (ry : RelV y u) (h : SAx X.K H0 M0 ρ env T H E M) (hx : SlOk X.K H0 M H x s1) (hy : SlOk X.K H0 M H y s2) {c : Bool} (e : eq2 s1.pv s2.pv = some c) :
    (∀ {Q : VK}, Q (.bl c) H → wpAny (model X.prog X.w) X.A (compareOp .Eq v u) (EP X pins σ Q) X.xe s) ∧ (∀ {Q : VK}, Q (.bl (!c)) H → wpAny (model X.prog X.w) X.A (compareOp .NotEq v u) (EP X pins σ Q) X.xe s) := by
  have hx' := hx.rep h.same
  have hy' := hy.rep h.same
  unfold eq2 at e
  split at e
  · rename_i b e1
    cases e
    obtain ⟨sc, de⟩ := eqS_ok hx' hy' e1
    constructor
    · intro Q q; exact op_eq pins s σ H x y v u Q I rx ry ⟨sc, by rw [de]; exact q⟩
    · intro Q q; exact op_ne pins s σ H x y v u Q I rx ry ⟨sc, by rw [de]; exact q⟩
  · unfold eqD at e
    split at e
    · split at e
      · rename_i d1 d2 e1 e2
        split at e
        · rename_i hs
          cases e
          simp only [Bool.and_eq_true] at hs
          constructor
          · intro Q q; exact op_eqD (Nat.lt_of_succ_lt hu) pins s σ H x y v u Q I rx ry ⟨d1, d2, toD_ok hx' e1, toD_ok hy' e2, hs.1, hs.2, q⟩
          · intro Q q; exact op_neD (Nat.lt_of_succ_lt hu) pins s σ H x y v u Q I rx ry ⟨d1, d2, toD_ok hx' e1, toD_ok hy' e2, hs.1, hs.2, q⟩
        · cases e
      · cases e
    · cases e
/-! dicts -/
theorem keyP_kP (a : Key) : keyP (kP a) = some a := by cases a <;> rfl
theorem keysL_map : ∀ a : List Key, keysL (a.map kP) = some a
  | [] => rfl
  | k :: ks => by simp [keysL, keyP_kP, keysL_map ks]
theorem keyP_rep {K : PySem.W.Frag} {M : Hp} {y : V} {k : PV} {kk : Key} (r : Rep K M y k) (e : keyP k = some kk) : y = kV kk ∧ k = kP kk := by
  cases r <;> simp [keyP] at e <;> subst e <;> exact ⟨rfl, rfl⟩
theorem keysL_rep {K : PySem.W.Frag} {M : Hp} : ∀ {vs : List V} {ps : List PV} {kk : List Key}, Reps K M vs ps → keysL ps = some kk → vs = kk.map kV ∧ ps = kk.map kP
  | _, _, _, .nil, e => by simp [keysL] at e; subst e; exact ⟨rfl, rfl⟩
  | _, _, _, .cons h t, e => by
    simp only [keysL, Option.bind_eq_some_iff, Option.map_eq_some_iff] at e
    obtain ⟨k, e1, ks, e2, rfl⟩ := e
    obtain ⟨rfl, rfl⟩ := keyP_rep h e1
    obtain ⟨rfl, rfl⟩ := keysL_rep t e2
    exact ⟨rfl, rfl⟩
theorem eqK_K (a : Key) {k : PV} {kk : Key} (e : keyP k = some kk) : eqK (kP a) k = decide (a = kk) := by
  unfold eqK
  rw [keyP_kP, e]
theorem eqK_T (a : List Key) {k : PV} {kk : List Key} (e : keysP k = some kk) : eqK (kT a) k = decide (a = kk) := by
  unfold eqK kT
  have h1 : keyP (.tup (a.map kP)) = none := rfl
  have h2 : keysP (.tup (a.map kP)) = some a := keysL_map a
  rw [h1, h2, e]
theorem dFind_K {K : PySem.W.Frag} {M : Hp} {k : PV} {kk : Key} (e : keyP k = some kk) : ∀ {kvs : List (Key × V)} {qs : List (PV × PV)}, kvs.map (fun e => kP e.1) = qs.map (·.1) → Reps K M (kvs.map (·.2)) (qs.map (·.2)) →
    (dFind k qs = none ∧ valV kvs kk = none) ∨ ∃ p v, dFind k qs = some p ∧ valV kvs kk = some v ∧ Rep K M v p
  | [], [], _, _ => .inl ⟨rfl, rfl⟩
  | (a, v) :: kvs, (b, p) :: qs, h, r => by
    simp only [List.map_cons, List.cons.injEq] at h
    obtain ⟨rfl, h⟩ := h
    cases r with
    | cons r1 r2 =>
      unfold dFind
      rw [eqK_K a e]
      by_cases q : a = kk
      · subst q
        refine .inr ⟨p, v, ?_, valV_pos rfl, r1⟩
        rw [if_pos (by simp)]
      · rw [if_neg (by simpa using q), valV_neg q]
        exact dFind_K e h r2
  | [], _ :: _, h, _ => by simp at h
  | _ :: _, [], h, _ => by simp at h
theorem dFind_T {K : PySem.W.Frag} {M : Hp} {k : PV} {kk : List Key} (e : keysP k = some kk) : ∀ {kvs : List (List Key × V)} {qs : List (PV × PV)}, kvs.map (fun e => kT e.1) = qs.map (·.1) → Reps K M (kvs.map (·.2)) (qs.map (·.2)) →
    (dFind k qs = none ∧ valV kvs kk = none) ∨ ∃ p v, dFind k qs = some p ∧ valV kvs kk = some v ∧ Rep K M v p
  | [], [], _, _ => .inl ⟨rfl, rfl⟩
  | (a, v) :: kvs, (b, p) :: qs, h, r => by
    simp only [List.map_cons, List.cons.injEq] at h
    obtain ⟨rfl, h⟩ := h
    cases r with
    | cons r1 r2 =>
      unfold dFind
      rw [eqK_T a e]
      by_cases q : a = kk
      · subst q
        refine .inr ⟨p, v, ?_, valV_pos rfl, r1⟩
        rw [if_pos (by simp)]
      · rw [if_neg (by simpa using q), valV_neg q]
        exact dFind_T e h r2
  | [], _ :: _, h, _ => by simp at h
  | _ :: _, [], h, _ => by simp at h
/-- what a dict is -/
theorem SlOk.dct {K : PySem.W.Frag} {H0 M H : Hp} {v : V} {s : Sl} {t : Nat} {qs : List (PV × PV)} (h : SlOk K H0 M H v s) (e : s.pv = .dct t qs) (sm : Same M H) :
    ∃ a, v = .ref a ∧ ((t = 0 ∧ ∃ kvs, H a = some (.dK kvs) ∧ kvs.map (fun e => kP e.1) = qs.map (·.1) ∧ Reps K M (kvs.map (·.2)) (qs.map (·.2))) ∨ (t = 1 ∧ ∃ kvs, H a = some (.dT kvs) ∧ kvs.map (fun e => kT e.1) = qs.map (·.1) ∧ Reps K M (kvs.map (·.2)) (qs.map (·.2)))) := by
  obtain ⟨⟨A, tr⟩, nt⟩ := h
  cases tr with
  | sh r =>
    have e' : _ = PV.dct t qs := e
    subst e'
    cases r with
    | dK m h1 r => exact ⟨_, rfl, .inl ⟨rfl, _, sm _ _ m, h1, r⟩⟩
    | dT m h1 r => exact ⟨_, rfl, .inr ⟨rfl, _, sm _ _ m, h1, r⟩⟩
  | dK m h0 hh h1 r =>
    simp only [Sl.pv, PV.dct.injEq] at e
    obtain ⟨rfl, rfl⟩ := e
    exact ⟨_, rfl, .inl ⟨rfl, _, hh, h1, r⟩⟩
  | dT m h0 hh h1 r =>
    simp only [Sl.pv, PV.dct.injEq] at e
    obtain ⟨rfl, rfl⟩ := e
    exact ⟨_, rfl, .inr ⟨rfl, _, hh, h1, r⟩⟩
  | own => cases e
  | nst => cases e
  | ins => cases e
  | tpl => cases e
theorem SlOk.dget {K : PySem.W.Frag} {H0 M H : Hp} {v y : V} {s : Sl} {t : Nat} {qs : List (PV × PV)} {k : PV} (h : SlOk K H0 M H v s) (e : s.pv = .dct t qs) (sm : Same M H) (ok : okKey t k = true) (hk : Rep K H y k) :
    ∃ a o, v = .ref a ∧ DGet H a y o ∧ ((dFind k qs = none ∧ o = none) ∨ ∃ p w, dFind k qs = some p ∧ o = some w ∧ Rep K M w p) := by
  obtain ⟨a, rfl, ⟨rfl, kvs, hh, h1, r⟩ | ⟨rfl, kvs, hh, h1, r⟩⟩ := h.dct e sm
  · simp only [okKey, Option.isSome_iff_exists] at ok
    obtain ⟨kk, ek⟩ := ok
    obtain ⟨rfl, rfl⟩ := keyP_rep hk ek
    exact ⟨a, _, rfl, .k hh, dFind_K ek h1 r⟩
  · simp only [okKey, Option.isSome_iff_exists] at ok
    obtain ⟨kk, ek⟩ := ok
    cases hk with
    | tup m rs =>
      obtain ⟨rfl, rfl⟩ := keysL_rep rs ek
      exact ⟨a, _, rfl, .t hh m, dFind_T ek h1 r⟩
    | _ => simp [keysP] at ek
theorem in2_ok (hu : X.A.units + 65 < cLine) (I : Inv X pins σ H s) (rx : RelV x v) (ry : RelV y u) (h : SAx X.K H0 M0 ρ env T H E M) (hx : SlOk X.K H0 M H x s1) (hy : SlOk X.K H0 M H y s2) {c : Bool} (e : in2 s1.pv s2.pv = some c) :
    (∀ {Q : VK}, Q (.bl c) H → wpAny (model X.prog X.w) X.A (compareOp .In v u) (EP X pins σ Q) X.xe s) ∧ (∀ {Q : VK}, Q (.bl (!c)) H → wpAny (model X.prog X.w) X.A (compareOp .NotIn v u) (EP X pins σ Q) X.xe s) := by
  have hx' := hx.rep h.same
  unfold in2 at e
  split at e
  · rename_i a b e1 e2
    cases e
    constructor
    · intro Q q; exact op_in_str pins s σ H x y v u Q I rx ry ⟨a, b, hx.str e1, hy.str e2, q⟩
    · intro Q q; exact L2.op_notin_str pins s σ H x y v u Q I rx ry ⟨a, b, hx.str e1, hy.str e2, q⟩
  · rename_i ys e2
    obtain ⟨a, vs, rfl, h1, r1, _⟩ := hy.lst e2 h.same
    split at e
    · rename_i b e5
      cases e
      simp only [Option.bind_eq_some_iff, Option.map_eq_some_iff] at e5
      obtain ⟨w, e3, ws, e4, rfl⟩ := e5
      obtain ⟨rfl, f1⟩ := flV_ok hx' e3
      obtain ⟨rfl, f2⟩ := flVs_ok r1 e4
      constructor
      · intro Q q; exact op_in_seq pins s σ H x _ v u Q I rx ry ⟨a, vs, rfl, .inl h1, f1, f2, q⟩
      · intro Q q; exact op_notIn_seq pins s σ H x _ v u Q I rx ry ⟨a, vs, rfl, .inl h1, f1, f2, q⟩
    · unfold inD at e
      split at e
      · rename_i d ds e6 e7
        split at e
        · rename_i hs
          cases e
          simp only [Bool.and_eq_true] at hs
          have hd1 := toD_ok hx' e6
          have hd2 := toDs_ok r1 e7
          constructor
          · intro Q q; exact op_inD hu pins s σ H x _ v u Q I rx ry ⟨d, ds, hd1, .lst h1 hd2, hs.1, hs.2, q⟩
          · intro Q q; exact op_notInD hu pins s σ H x _ v u Q I rx ry ⟨d, ds, hd1, .lst h1 hd2, hs.1, hs.2, q⟩
        · cases e
      · cases e
  · rename_i ys e2
    simp only [Option.bind_eq_some_iff, Option.map_eq_some_iff] at e
    obtain ⟨w, e3, ws, e4, rfl⟩ := e
    obtain ⟨a, vs, rfl, h1, r1⟩ := hy.tup e2 h.same
    obtain ⟨rfl, f1⟩ := flV_ok hx' e3
    obtain ⟨rfl, f2⟩ := flVs_ok r1 e4
    constructor
    · intro Q q; exact op_in_seq pins s σ H x _ v u Q I rx ry ⟨a, vs, rfl, .inr (.of h1), f1, f2, q⟩
    · intro Q q; exact op_notIn_seq pins s σ H x _ v u Q I rx ry ⟨a, vs, rfl, .inr (.of h1), f1, f2, q⟩
  · rename_i t kvs e2
    split at e
    · rename_i ok
      cases e
      obtain ⟨a, o, rfl, g, hf⟩ := hy.dget e2 h.same ok hx'
      cases ry
      have e3 : (dFind s1.pv kvs).isSome = o.isSome := by
        rcases hf with ⟨z1, z2⟩ | ⟨p, w, z1, z2, _⟩ <;> rw [z1, z2] <;> rfl
      rw [e3]
      constructor
      · intro Q q; exact d_in (by omega) I g rx fun s' I' => ⟨.bl _, H, I', rfl, q⟩
      · intro Q q; exact d_notIn (by omega) I g rx fun s' I' => ⟨.bl _, H, I', rfl, q⟩
    · cases e
  · cases e
theorem op_cmp {op : CmpOp} (hu : X.A.units + 65 < cLine) (I : Inv X pins σ H s) (rx : RelV x v) (ry : RelV y u) (h : SAx X.K H0 M0 ρ env T H E M) (hx : SlOk X.K H0 M H x s1) (hy : SlOk X.K H0 M H y s2) {c : Bool} (e : cmp2 op s1.pv s2.pv = some c)
    (k : Q (.bl c) H) : wpAny (model X.prog X.w) X.A (compareOp op v u) (EP X pins σ Q) X.xe s := by
  unfold cmp2 at e
  split at e
  · exact (eq2_ok hu I rx ry h hx hy e).1 k
  · simp only [Option.map_eq_some_iff] at e
    obtain ⟨c', e, rfl⟩ := e
    exact (eq2_ok hu I rx ry h hx hy e).2 k
  · rename_i i j e1 e2
    cases e
    exact op_lt pins s σ H x y v u Q I rx ry ⟨i, j, hx.int e1, hy.int e2, k⟩
  · rename_i i j e1 e2
    cases e
    exact op_le pins s σ H x y v u Q I rx ry ⟨i, j, hx.int e1, hy.int e2, k⟩
  · rename_i i j e1 e2
    cases e
    exact op_gt pins s σ H x y v u Q I rx ry ⟨i, j, hx.int e1, hy.int e2, k⟩
  · rename_i i j e1 e2
    cases e
    exact op_ge pins s σ H x y v u Q I rx ry ⟨i, j, hx.int e1, hy.int e2, k⟩
  · rename_i e2
    have hx' := hx.rep h.same
    refine op_isN pins s σ H x y v u Q I rx ry ⟨hy.non e2, ?_⟩
    generalize s1.pv = q1 at hx' e
    cases hx' <;> simp_all
  · rename_i e2
    have hx' := hx.rep h.same
    refine op_notN pins s σ H x y v u Q I rx ry ⟨hy.non e2, ?_⟩
    generalize s1.pv = q1 at hx' e
    cases hx' <;> simp_all
  · exact (in2_ok hu I rx ry h hx hy e).1 k
  · simp only [Option.map_eq_some_iff] at e
    obtain ⟨c', e, rfl⟩ := e
    exact (in2_ok hu I rx ry h hx hy e).2 k
  · cases e
theorem tru_of (h : SAx X.K H0 M0 ρ env T H E M) (hx : SlOk X.K H0 M H x s1) {c : Bool} (e : truth s1.pv = some c) : TruV X.K x H c := by
  unfold truth at e
  split at e
  · rename_i e1; cases e; rw [hx.non e1]; exact rfl
  · rename_i b e1; cases e; rw [hx.bl e1]; exact rfl
  · rename_i b e1; cases e; rw [hx.int e1]; exact rfl
  · rename_i z e1
    split at e
    · rename_i hl; cases e; rw [hx.str e1]; exact ⟨le_line hl, rfl⟩
    · cases e
  · rename_i xs e1
    cases e
    obtain ⟨a, vs, rfl, h1, r1, _⟩ := hx.lst e1 h.same
    refine .inl ⟨vs, h1, ?_⟩
    cases r1 <;> rfl
  · rename_i xs e1
    cases e
    obtain ⟨a, vs, rfl, h1, r1⟩ := hx.tup e1 h.same
    refine .inr (.inl ⟨vs, .of h1, ?_⟩)
    cases r1 <;> rfl
  all_goals cases e
theorem atI_reps {K : PySem.W.Frag} {vs : List V} {ps : List PV} {i : Int} {p : PV} (r : Reps K M vs ps) (e : atI ps i = some p) : ∃ v, atI vs i = some v ∧ Rep K M v p := by
  unfold atI at e ⊢
  rw [r.length]
  cases q : ixN ps.length i with
  | none => rw [q] at e; cases e
  | some j =>
    rw [q] at e
    exact r.get e
theorem ix_dct (hu : X.A.units + 65 < cLine) {a : Addr} {w : V} (value slice : Expr) (I : Inv X pins σ H s) (ry : RelV y u) (g : DGet H a y (some w)) (hs : subscripted slice false (.ref a) u = operate [.ref a, u] (getItem (.ref a) u)) (q : Q w H) :
    wpAny (model X.prog X.w) X.A (subscriptTail value slice (.ref a) u) (EP X pins σ Q) X.xe s := by
  have hT := dict_typeIs I g
  unfold subscriptTail
  refine wpAny_bind ?_
  rw [getitemInPython_of_ne hT.not_modules]
  refine wpAny_bind (wpAny_specialOf hT PySem.F.slot_dict_getitem.lookup ?_)
  have fin : wpAny (model X.prog X.w) X.A (subscripted slice false (.ref a) u) (fun r s₃ => wpAny (model X.prog X.w) X.A (letTemporaryGo value (.ref a) r >>= fun _ => pure r) (EP X pins σ Q) X.xe s₃) X.xe s := by
    rw [hs]
    exact wpAny_operating (wpAny_mono (d_getItem (by omega) I g ry fun w' s3 I3 rw' => (⟨w, H, I3, rw', q⟩ : EP X pins σ Q w' s3)) (fun r s₃ h₃ => wpAny_bind (wpAny_letTemporaryGo (wpAny_pure h₃))) fun _ _ x => x)
  first
    | exact wpAny_pure (wpAny_bind fin)
    | exact wpAny_bind (wpAny_pure (wpAny_bind fin))
    | exact wpAny_bind fin
theorem op_ix (hu : X.A.units + 65 < cLine) (value slice : Expr) (I : Inv X pins σ H s) (rx : RelV x v) (ry : RelV y u) (h : SAx X.K H0 M0 ρ env T H E M) (hx : SlOk X.K H0 M H x s1) (hy : SlOk X.K H0 M H y s2) (st : s1.strict = true) {p : PV} (e : ix2 s1.pv s2.pv = some p)
    (hs : subscripted slice false v u = operate [v, u] (getItem v u)) (k : ∀ v H', SA X.K H0 M0 ρ env (T ++ [(v, .t (.sh p))]) H' → Q v H') : wpAny (model X.prog X.w) X.A (subscriptTail value slice v u) (EP X pins σ Q) X.xe s := by
  unfold ix2 at e
  split at e
  · rename_i xs i e1 e2
    obtain ⟨a, vs, rfl, h1, _, r1⟩ := hx.lst e1 h.same
    obtain ⟨w, e3, r3⟩ := atI_reps (r1 st) e
    exact ix_list value slice pins s σ H _ y v u Q I rx ry ⟨a, vs, i, w, rfl, hy.int e2, h1, e3, k _ _ (h.push r3)⟩ hs
  · rename_i xs i e1 e2
    obtain ⟨a, vs, rfl, h1, r1⟩ := hx.tup e1 h.same
    obtain ⟨w, e3, r3⟩ := atI_reps r1 e
    exact ix_tup value slice pins s σ H _ y v u Q I rx ry ⟨a, vs, i, w, rfl, hy.int e2, .of h1, e3, k _ _ (h.push r3)⟩ hs
  · rename_i z i e1 e2
    split at e
    · rename_i hl
      simp only [Option.map_eq_some_iff] at e
      obtain ⟨c, e3, rfl⟩ := e
      exact ix_str value slice pins s σ H x y v u Q I rx ry ⟨z, i, c, hx.str e1, hy.int e2, le_line hl, e3, k _ _ (h.push (.str _))⟩ hs
    · cases e
  · rename_i t kvs e1
    split at e
    · rename_i ok
      obtain ⟨a, o, rfl, g, hf⟩ := hx.dget e1 h.same ok (hy.rep h.same)
      cases rx
      rcases hf with ⟨z1, z2⟩ | ⟨p', w, z1, rfl, rp⟩
      · rw [z1] at e; cases e
      · rw [z1] at e; cases e
        exact ix_dct hu value slice I ry g hs (k _ _ (h.push rp))
    · cases e
  · cases e
/-- x[k] of a list of trees -/
theorem op_ixN (value slice : Expr) (I : Inv X pins σ H s) {a : Addr} {vs : List V} {i : Int} {w : V} (rx : RelV (.ref a) v) (ry : RelV (.int i) u) (h1 : SqL X.K H a vs) (e3 : atI vs i = some w)
    (hs : subscripted slice false v u = operate [v, u] (getItem v u)) (k : Q w H) : wpAny (model X.prog X.w) X.A (subscriptTail value slice v u) (EP X pins σ Q) X.xe s :=
  ix_list value slice pins s σ H _ _ v u Q I rx ry ⟨a, vs, i, w, rfl, rfl, h1, e3, k⟩ hs
theorem cut_reps {K : PySem.W.Frag} {vs : List V} {ps : List PV} (lo hi : Option Int) (r : Reps K M vs ps) : Reps K M (cutV vs lo hi) (cutP ps lo hi) := by
  unfold cutV cutP
  rw [r.length]
  exact (r.drop _).take _
theorem op_slc {vl vu : Value} {lo hi : Option Int} {sl : Addr} (I : Inv X pins σ H s) (rx : RelV x v) (hs : s.heap.IsSliceOf sl vl vu .none) (pl : IsPart vl lo) (pu : IsPart vu hi) (h : SAx X.K H0 M0 ρ env T H E M) (hx : SlOk X.K H0 M H x s1) (st : s1.strict = true) (e : slc3 s1.pv lo hi = some z)
    (k : ∀ v H', SA X.K H0 M0 ρ env (T ++ [(v, .t z)]) H' → Q v H') :
    ∃ T id, typeLookup (.type T) "__getitem__" = pure (some (.builtin id)) ∧ s.TypeIs v T ∧ wpAny (model X.prog X.w) X.A (getItem v (.ref sl)) (EP X pins σ Q) X.xe s := by
  unfold slc3 at e
  split at e
  · rename_i xs e1
    cases e
    obtain ⟨a, vs, rfl, h1, _, r1⟩ := hx.lst e1 h.same
    have r1 := r1 st
    exact sl_list pins s σ H _ v vl vu lo hi sl Q I rx hs pl pu ⟨a, vs, rfl, h1, fun p hp => k _ _ (h.lst hp (cut_reps lo hi r1))⟩
  · rename_i xs e1
    cases e
    obtain ⟨a, vs, rfl, h1, r1⟩ := hx.tup e1 h.same
    refine sl_tupA pins s σ H _ v vl vu lo hi sl Q I rx hs pl pu ⟨a, vs, rfl, .of h1, fun ⟨z1, z2⟩ => ?_, fun _ p hp => k _ _ (h.tup hp (cut_reps lo hi r1))⟩
    have e3 : cutP xs lo hi = xs := by
      unfold cutP
      rw [r1.length] at z1 z2
      rw [z1, z2]
      simp
    rw [e3] at k
    exact k _ _ (h.push (hx.sh e1 rfl))
  · rename_i a e1
    split at e
    · rename_i hl
      cases e
      exact sl_str pins s σ H x v vl vu lo hi sl Q I rx hs pl pu ⟨a, hx.str e1, le_line hl, k _ _ (h.push (.str _))⟩
    · cases e
  · cases e
end

/-! ### built-in functions and types -/
inductive SlsOk (K : PySem.W.Frag) (st : Bool) (H0 M H : Hp) : List V → List PV → Prop
  | nil : SlsOk K st H0 M H [] []
  | cons {v : V} {s : Sl} {vs : List V} {ps : List PV} : SlOk K H0 M H v s → (st = true → s.strict = true) → SlsOk K st H0 M H vs ps → SlsOk K st H0 M H (v :: vs) (s.pv :: ps)
theorem SAx.gets {K : PySem.W.Frag} {st : Bool} {H0 M0 M H : Hp} {σ : L2.St} {env : PEnv} {T : List (V × Bw)} {E : List (V × Sl)} (h : SAx K H0 M0 σ env T H E M) :
    ∀ {xs : List Bw} {vs : List V} {ps : List PV}, vs.length = xs.length → (∀ e ∈ vs.zip xs, e ∈ T) → pvbs env xs = some ps → (st = true → stBs env xs = true) → SlsOk K st H0 M H vs ps
  | [], vs, ps, hl, _, e, _ => by
    have : vs = [] := by simpa using hl
    subst this
    simp [pvbs] at e; subst e; exact .nil
  | x :: xs, [], ps, hl, _, e, _ => by simp at hl
  | x :: xs, v :: vs, ps, hl, hm, e, hs => by
    simp only [pvbs, Option.bind_eq_some_iff, Option.map_eq_some_iff] at e
    obtain ⟨p, e1, qs, e2, rfl⟩ := e
    obtain ⟨s, e3, rfl⟩ := pvb_sl e1
    refine .cons (h.get (hm (v, x) (by simp)) e3) (fun z => ?_) (h.gets (by simpa using hl) (fun q hq => hm q (by simp [hq])) e2 fun z => ?_)
    · have := hs z
      simp only [stBs, Bool.and_eq_true, stB, e3] at this
      exact this.1
    · have := hs z
      simp only [stBs, Bool.and_eq_true] at this
      exact this.2
theorem SlsOk.one {K : PySem.W.Frag} {st : Bool} {H0 M H : Hp} {vs : List V} {p : PV} (h : SlsOk K st H0 M H vs [p]) : ∃ v s, vs = [v] ∧ SlOk K H0 M H v s ∧ s.pv = p ∧ (st = true → s.strict = true) := by
  cases h with
  | cons a w b => cases b; exact ⟨_, _, rfl, a, rfl, w⟩
theorem SlsOk.two {K : PySem.W.Frag} {st : Bool} {H0 M H : Hp} {vs : List V} {p q : PV} (h : SlsOk K st H0 M H vs [p, q]) : ∃ v s w t, vs = [v, w] ∧ SlOk K H0 M H v s ∧ s.pv = p ∧ SlOk K H0 M H w t ∧ t.pv = q := by
  cases h with
  | cons a _ b =>
    cases b with
    | cons c _ d => cases d; exact ⟨_, _, _, _, rfl, a, rfl, c, rfl⟩
theorem asInts_ok : ∀ {ps : List PV} {ns : List Int}, asInts ps = some ns → ps = ns.map PV.int
  | [], _, e => by simp [asInts] at e; subst e; rfl
  | p :: ps, ns, e => by
    cases p <;> simp [asInts] at e
    obtain ⟨ms, e, rfl⟩ := e
    simp [asInts_ok e]
theorem asBls_ok : ∀ {ps : List PV} {ns : List Bool}, asBls ps = some ns → ps = ns.map PV.bl
  | [], _, e => by simp [asBls] at e; subst e; rfl
  | p :: ps, ns, e => by
    cases p <;> simp [asBls] at e
    obtain ⟨ms, e, rfl⟩ := e
    simp [asBls_ok e]
theorem asStrs_ok : ∀ {ps : List PV} {ns : List Str}, asStrs ps = some ns → ps = ns.map PV.str
  | [], _, e => by simp [asStrs] at e; subst e; rfl
  | p :: ps, ns, e => by
    cases p <;> simp [asStrs] at e
    obtain ⟨ms, e, rfl⟩ := e
    simp [asStrs_ok e]
theorem ins_perm (x : Int) : ∀ l : List Int, (isortI.ins x l).Perm (x :: l)
  | [] => .refl _
  | y :: ys => by
    unfold isortI.ins
    split
    · exact .refl _
    · exact ((ins_perm x ys).cons y).trans (.swap x y ys)
theorem isortI_perm : ∀ l : List Int, (isortI l).Perm l
  | [] => .refl _
  | x :: xs => (ins_perm x _).trans ((isortI_perm xs).cons x)
theorem ins_sorted (x : Int) : ∀ {l : List Int}, l.Pairwise (· ≤ ·) → (isortI.ins x l).Pairwise (· ≤ ·)
  | [], _ => by simp [isortI.ins]
  | y :: ys, h => by
    unfold isortI.ins
    split
    · rename_i hxy
      refine List.pairwise_cons.mpr ⟨fun z hz => ?_, h⟩
      rcases List.mem_cons.mp hz with rfl | hz
      · exact hxy
      · exact Int.le_trans hxy ((List.pairwise_cons.mp h).1 z hz)
    · rename_i hxy
      refine List.pairwise_cons.mpr ⟨fun z hz => ?_, ins_sorted x (List.pairwise_cons.mp h).2⟩
      rcases List.mem_cons.mp ((ins_perm x ys).mem_iff.mp hz) with rfl | hz
      · omega
      · exact (List.pairwise_cons.mp h).1 z hz
theorem isortI_sorted : ∀ l : List Int, (isortI l).Pairwise (· ≤ ·)
  | [] => .nil
  | x :: xs => ins_sorted x (isortI_sorted xs)
theorem sorted_uniq : ∀ {l l' : List Int}, l.Perm l' → l.Pairwise (· ≤ ·) → l'.Pairwise (· ≤ ·) → l = l'
  | [], l', p, _, _ => (List.nil_perm.mp p).symm
  | x :: xs, [], p, _, _ => by simpa using p.length_eq
  | x :: xs, y :: ys, p, h, h' => by
    have hx : x ∈ y :: ys := p.mem_iff.mp (by simp)
    have hy : y ∈ x :: xs := p.mem_iff.mpr (by simp)
    have e : x = y := by
      rcases List.mem_cons.mp hx with e | hx
      · exact e
      · rcases List.mem_cons.mp hy with e | hy
        · exact e.symm
        · have a := (List.pairwise_cons.mp h).1 y hy
          have b := (List.pairwise_cons.mp h').1 x hx
          omega
    subst e
    rw [sorted_uniq ((List.perm_cons x).mp p) (List.pairwise_cons.mp h).2 (List.pairwise_cons.mp h').2]
noncomputable def bTypes : List String := ["int", "str", "list", "tuple"]
theorem srtOk_ok {xs : List PV} (h : srtOk xs = true) : xs.mapM toD = some (xs.map ddOf) ∧ PySem.W.AllAlike (xs.map ddOf) ∧ PySem.W.Sortable (xs.map ddOf) ∧ ∀ d ∈ xs.map ddOf, d.depth ≤ 60 := by
  unfold srtOk at h
  rw [Bool.and_eq_true, List.all_eq_true, List.all_eq_true] at h
  obtain ⟨h1, h2⟩ := h
  have h3 : ∀ p ∈ xs, toD p = some (ddOf p) ∧ tup1 p = true ∧ (ddOf p).depth ≤ 60 := fun p hp => by
    have := h1 p hp
    rw [Bool.and_eq_true, Bool.and_eq_true, decide_eq_true_eq] at this
    obtain ⟨d, e⟩ := Option.isSome_iff_exists.mp this.1
    exact ⟨by unfold ddOf; rw [e]; rfl, this.2⟩
  refine ⟨?_, ?_, .inl ?_, ?_⟩
  · clear h1 h2
    induction xs with
    | nil => rfl
    | cons p xs ih =>
      rw [List.mapM_cons, (h3 p List.mem_cons_self).1, ih fun q hq => h3 q (List.mem_cons_of_mem _ hq)]
      rfl
  · intro d hd d' hd'
    obtain ⟨p, hp, rfl⟩ := List.mem_map.mp hd
    obtain ⟨q, hq, rfl⟩ := List.mem_map.mp hd'
    exact List.all_eq_true.mp (h2 p hp) q hq
  · intro d hd
    obtain ⟨p, hp, rfl⟩ := List.mem_map.mp hd
    obtain ⟨e1, e2, _⟩ := h3 p hp
    cases p with
    | tup ps =>
      cases ps with
      | nil => cases e2
      | cons q ps =>
        unfold toD at e1
        simp only [Option.map_eq_some_iff] at e1
        obtain ⟨ds, e3, e4⟩ := e1
        rw [List.mapM_subtype (g := fun p => toD p) (by simp)] at e3
        simp only [List.unattach_attach, List.mapM_cons, Option.bind_eq_bind, Option.bind_eq_some_iff, Option.pure_def, Option.some.injEq] at e3
        obtain ⟨d, _, ds', _, rfl⟩ := e3
        exact ⟨_, _, e4.symm⟩
    | _ => cases e2
  · intro d hd
    obtain ⟨p, hp, rfl⟩ := List.mem_map.mp hd
    exact (h3 p hp).2.2
theorem reps_maps {K : PySem.W.Frag} {M : Hp} : ∀ {l : List (V × PV)}, (∀ b ∈ l, Rep K M b.1 b.2) → Reps K M (l.map Prod.fst) (l.map Prod.snd)
  | [], _ => .nil
  | b :: l, h => .cons (h b List.mem_cons_self) (reps_maps fun c hc => h c (List.mem_cons_of_mem _ hc))
theorem reps_zip {K : PySem.W.Frag} {M : Hp} : ∀ {vs : List V} {ps : List PV}, Reps K M vs ps → ∀ b ∈ vs.zip ps, Rep K M b.1 b.2
  | _, _, .nil, b, hb => by cases hb
  | _, _, .cons h t, b, hb => by
    rcases List.mem_cons.mp (by simpa using hb) with rfl | hb
    · exact h
    · exact reps_zip t b hb
theorem srtD_rep {K : PySem.W.Frag} {M : Hp} {vs : List V} {ps : List PV} (r : Reps K M vs ps) : Reps K M (((vs.zip (ps.map ddOf)).mergeSort (PySem.W.dataLe false Prod.snd)).map Prod.fst) (srtD ps) := by
  have e1 : vs.zip (ps.map ddOf) = (vs.zip ps).map fun b => (b.1, ddOf b.2) := by
    rw [List.zip_map_right]; rfl
  have e2 := PySem.W.sort_maps (r := PySem.W.dataLe false fun b : V × PV => ddOf b.2) (s := PySem.W.dataLe false (Prod.snd : V × PyData → PyData)) (fun b : V × PV => (b.1, ddOf b.2)) (l := vs.zip ps) fun a _ b _ => rfl
  have e3 := PySem.W.sort_maps (r := PySem.W.dataLe false fun b : V × PV => ddOf b.2) (s := PySem.W.dataLe false ddOf) (Prod.snd : V × PV → PV) (l := vs.zip ps) fun a _ b _ => rfl
  rw [zip_snd r.length.symm] at e3
  rw [e1, ← e2, List.map_map]
  unfold srtD
  rw [← e3]
  exact reps_maps (l := (vs.zip ps).mergeSort _) fun b hb => reps_zip r b ((List.mergeSort_perm _ _).mem_iff.mp hb)
noncomputable def bFuns : List String := ["len", "sum", "all", "any", "abs", "max", "min", "sorted"]
noncomputable def bv (f : String) : Value := if bTypes.contains f then .type f else .builtin f
theorem boot_ok {f : String} (h : (bTypes ++ bFuns).contains f = true) : bootBuiltins (f : Str) = some (bv f) := by
  simp only [bTypes, bFuns, List.cons_append, List.nil_append, List.contains_cons, List.contains_nil, Bool.or_eq_true, beq_iff_eq, Bool.or_false] at h
  rcases h with rfl | rfl | rfl | rfl | rfl | rfl | rfl | rfl | rfl | rfl | rfl | rfl <;> decide +kernel
section
variable {prog : Program} {w : World} {A : Around} {E : Value → Shared → Prop} {s : Shared} {d : Addr} {es : Array DictEntry} {ep : Nat}
theorem len_body_raw {Q : Value → Shared → Prop} (hd : (d == sysModules) = false) (hm : s.heap.DictRaw d es ep) (hfit : (es.size : Int) < 2 ^ 63)
    (h : Q (.int es.size (s.toks + 1)) { s with toks := s.toks + 1 + 1 }) : wpAny (model prog w) A (Builtin.«len» ⟨[.ref d], []⟩) (fun fin s' => ∃ r, fin = .done (.ret r) ∧ Q r s') E s := by
  unfold Builtin.«len»
  refine wpAny_bind (m := oneArg "len" _) (wpAny_pure ?_)
  refine wpAny_bind (m := callSpecial? (.ref d) (Str.ofString "__len__")) (wpAny_callSpecial?_slot (name := Str.ofString "__len__") hm.typeIs PySem.F.slot_dict_len (call_len_raw hd hm ?_))
  show wpAny _ _ _ _ _ { s with toks := s.toks + 1 }
  refine wpAny_bind (wpAny_holding (wpAny_pure ?_))
  refine wpAny_bind (wpAny_letGo ?_)
  show wpAny _ _ (if ((es.size : Nat) : Int) < 0 then _ else _) _ _ _
  rw [if_neg (by omega)]
  show wpAny _ _ (if ((es.size : Nat) : Int) ≥ 2 ^ 63 then _ else _) _ _ _
  rw [if_neg (by omega)]
  exact wpAny_bind (wpAny_mkInt (wpAny_pure ⟨_, rfl, h⟩))
theorem call_len_rawB {Q : Value → Shared → Prop} (hd : (d == sysModules) = false) (hm : s.heap.DictRaw d es ep) (hfit : (es.size : Int) < 2 ^ 63)
    (h : Q (.int es.size (s.toks + 1)) { s with toks := s.toks + 1 + 1 }) : wpAny (model prog w) A (call (.builtin "len") [.ref d]) Q E s :=
  Calls.call_function_entry kind_len plain_len entry_len (args_len1 _) (len_body_raw hd hm hfit h)
end
section
variable {X : Cx} {pins : List (Addr × Obj)} {s : Shared} {σ ρ : L2.St} {H H0 M0 M : Hp} {xs : List V} {us : List Value} {Q : VK} {env : PEnv} {T : List (V × Bw)} {E : List (V × Sl)} {z : Sl}
theorem op_blt {f : String} {st : Bool} {ps : List PV} (hu : X.A.units + 65 < cLine) (hc : X.calm = true) (I : Inv X pins σ H s) (r : Vals xs us) (h : SAx X.K H0 M0 ρ env T H E M) (hx : SlsOk X.K st H0 M H xs ps) (hst : f = "len" ∨ st = true) (e : blt2 f ps = some z)
    (k : ∀ v H', SA X.K H0 M0 ρ env (T ++ [(v, .t z)]) H' → Q v H') : wpAny (model X.prog X.w) X.A (call (bv f) us) (EP X pins σ Q) X.xe s := by
  have fi : ∀ n : Int, z = .sh (.int n) → Q (.int n) H := fun n e => by subst e; exact k _ _ (h.push (.int n))
  have fb : ∀ n : Bool, z = .sh (.bl n) → Q (.bl n) H := fun n e => by subst e; exact k _ _ (h.push (.bl n))
  have fs : ∀ n : Str, z = .sh (.str n) → Q (.str n) H := fun n e => by subst e; exact k _ _ (h.push (.str n))
  unfold blt2 at e
  split at e
  · obtain ⟨v, t, rfl, hv, e1, ss⟩ := hx.one
    cases e
    obtain ⟨a, vs, rfl, h1, r1, r2⟩ := hv.lst e1 h.same
    exact call_len pins s σ H _ us Q I r ⟨.ref a, vs.length, rfl, .inl ⟨vs, h1, rfl⟩, fi _ (by rw [r1.length])⟩
  · obtain ⟨v, t, rfl, hv, e1, ss⟩ := hx.one
    cases e
    obtain ⟨a, vs, rfl, h1, r1⟩ := hv.tup e1 h.same
    exact call_len pins s σ H _ us Q I r ⟨.ref a, vs.length, rfl, .inr ⟨vs, .of h1, rfl⟩, fi _ (by rw [r1.length])⟩
  · obtain ⟨v, t, rfl, hv, e1, ss⟩ := hx.one
    split at e
    · rename_i hl
      cases e
      rw [hv.str e1] at r
      exact call_len_str pins s σ H _ us Q I r ⟨_, rfl, le_line hl, fi _ rfl⟩
    · cases e
  · rename_i qs
    obtain ⟨v, t, rfl, hv, e1, ss⟩ := hx.one
    cases e
    obtain ⟨a, rfl, ⟨_, kvs, hh, h1, _⟩ | ⟨h0, _⟩⟩ := hv.dct e1 h.same
    · obtain ⟨u, rfl, rx⟩ := vals1 r
      have eu : u = .ref a := rx
      subst eu
      have el : kvs.length = qs.length := by have := congrArg List.length h1; rwa [List.length_map, List.length_map] at this
      obtain ⟨z, hds, vs, hk, hD⟩ := dk_of I.hok hh
      have hl := hk.length
      have hs : sizeLine = 16777216 := sizeLine_eq
      exact call_len_dict hds hD (by omega) ⟨.int vs.length, H, I.tok _, ⟨_, rfl⟩, fi _ (by rw [← el, hl])⟩
    · cases h0
  · rename_i qs
    obtain ⟨v, t, rfl, hv, e1, ss⟩ := hx.one
    cases e
    obtain ⟨a, rfl, ⟨h0, _⟩ | ⟨_, kvs, hh, h1, _⟩⟩ := hv.dct e1 h.same
    · cases h0
    · obtain ⟨u, rfl, rx⟩ := vals1 r
      have eu : u = .ref a := rx
      subst eu
      have el : kvs.length = qs.length := by have := congrArg List.length h1; rwa [List.length_map, List.length_map] at this
      obtain ⟨z, hds, vs, hk, o, es, ep, ho, hx', hdt, he, _⟩ := dt_of I.hok hh
      have hl : kvs.length = vs.length := Paired.length hk
      have hz : es.size = vs.length := size_of_entries he
      have hs : sizeLine = 16777216 := sizeLine_eq
      exact call_len_rawB hds ⟨o, ho, hx', hdt⟩ (by omega) ⟨.int es.size, H, I.tok _, ⟨_, rfl⟩, fi _ (by rw [hz, ← hl, el])⟩
  · obtain ⟨v, t, rfl, hv, e1, ss⟩ := hx.one
    simp only [Option.map_eq_some_iff] at e
    obtain ⟨ns, e2, rfl⟩ := e
    obtain ⟨a, vs, rfl, h1, r1, r2⟩ := hv.lst e1 h.same
    rw [asInts_ok e2] at r1
    rw [r1.ints] at h1
    exact cr_sum hc pins s σ H _ us Q I r ⟨a, ns, rfl, h1, fi _ rfl⟩
  · obtain ⟨v, t, rfl, hv, e1, ss⟩ := hx.one
    simp only [Option.map_eq_some_iff] at e
    obtain ⟨ns, e2, rfl⟩ := e
    obtain ⟨a, vs, rfl, h1, r1, r2⟩ := hv.lst e1 h.same
    rw [asBls_ok e2] at r1
    rw [r1.bls] at h1
    exact cr_all hc pins s σ H _ us Q I r ⟨a, ns, rfl, h1, fb _ rfl⟩
  · obtain ⟨v, t, rfl, hv, e1, ss⟩ := hx.one
    simp only [Option.map_eq_some_iff] at e
    obtain ⟨ns, e2, rfl⟩ := e
    obtain ⟨a, vs, rfl, h1, r1, r2⟩ := hv.lst e1 h.same
    rw [asBls_ok e2] at r1
    rw [r1.bls] at h1
    exact cr_any hc pins s σ H _ us Q I r ⟨a, ns, rfl, h1, fb _ rfl⟩
  · obtain ⟨v, t, rfl, hv, e1, ss⟩ := hx.one
    cases e
    rw [hv.int e1] at r
    exact call_abs pins s σ H _ us Q I r ⟨_, rfl, fi _ rfl⟩
  · obtain ⟨v, t, w, t', rfl, hv, e1, hw, e2⟩ := hx.two
    cases e
    rw [hv.int e1, hw.int e2] at r
    exact call_max2 hc pins s σ H _ us Q I r ⟨_, _, rfl, fi _ rfl⟩
  · obtain ⟨v, t, w, t', rfl, hv, e1, hw, e2⟩ := hx.two
    cases e
    rw [hv.int e1, hw.int e2] at r
    exact call_min2 hc pins s σ H _ us Q I r ⟨_, _, rfl, fi _ rfl⟩
  · obtain ⟨v, t, rfl, hv, e1, ss⟩ := hx.one
    simp only [Option.map_eq_some_iff] at e
    obtain ⟨m, e2, rfl⟩ := e
    unfold maxL at e2
    obtain ⟨ns, e3, e4⟩ := Option.bind_eq_some_iff.mp e2
    obtain ⟨a, vs, rfl, h1, r1, r2⟩ := hv.lst e1 h.same
    rw [asInts_ok e3] at r1
    rw [r1.ints] at h1
    obtain ⟨q1, q2⟩ := List.max?_eq_some_iff.mp e4
    exact cr_max hc pins s σ H _ us Q I r ⟨a, ns, rfl, h1, List.length_pos_of_mem q1, fun m' g1 g2 => by
      have z1 := g2 m q1
      have z2 := q2 m' g1
      have z3 : m' = m := by omega
      rw [z3]; exact fi _ rfl⟩
  · obtain ⟨v, t, rfl, hv, e1, ss⟩ := hx.one
    simp only [Option.map_eq_some_iff] at e
    obtain ⟨m, e2, rfl⟩ := e
    unfold minL at e2
    obtain ⟨ns, e3, e4⟩ := Option.bind_eq_some_iff.mp e2
    obtain ⟨a, vs, rfl, h1, r1, r2⟩ := hv.lst e1 h.same
    rw [asInts_ok e3] at r1
    rw [r1.ints] at h1
    obtain ⟨q1, q2⟩ := List.min?_eq_some_iff.mp e4
    exact cr_min hc pins s σ H _ us Q I r ⟨a, ns, rfl, h1, List.length_pos_of_mem q1, fun m' g1 g2 => by
      have z1 := g2 m q1
      have z2 := q2 m' g1
      have z3 : m' = m := by omega
      rw [z3]; exact fi _ rfl⟩
  · obtain ⟨v, t, rfl, hv, e1, ss⟩ := hx.one
    cases e
    rw [hv.int e1] at r
    exact call_int1 pins s σ H _ us Q I r (.inl ⟨_, rfl, fi _ rfl⟩)
  · obtain ⟨v, t, rfl, hv, e1, ss⟩ := hx.one
    cases e
    rw [hv.bl e1] at r
    exact call_int1 pins s σ H _ us Q I r (.inr ⟨_, rfl, fi _ rfl⟩)
  · obtain ⟨v, t, rfl, hv, e1, ss⟩ := hx.one
    split at e
    · rename_i hl
      simp only [Option.map_eq_some_iff] at e
      obtain ⟨n, e2, rfl⟩ := e
      rw [hv.str e1] at r
      exact call_int_str pins s σ H _ us Q I r ⟨_, n, rfl, e2, hl, fi _ rfl⟩
    · cases e
  · obtain ⟨v, t, rfl, hv, e1, ss⟩ := hx.one
    split at e
    · rename_i hl
      cases e
      rw [hv.int e1] at r
      exact call_str_int pins s σ H _ us Q I r ⟨_, rfl, hl, fs _ rfl⟩
    · cases e
  · obtain ⟨v, t, rfl, hv, e1, ss⟩ := hx.one
    cases e
    obtain ⟨a, vs, rfl, h1, r1, r2⟩ := hv.lst e1 h.same
    exact call_list_of pins s σ H _ us Q I r ⟨a, vs, rfl, .inl h1, fun p hp => k _ _ (h.lst hp (r2 (ss (hst.resolve_left (by decide)))))⟩
  · obtain ⟨v, t, rfl, hv, e1, ss⟩ := hx.one
    cases e
    obtain ⟨a, vs, rfl, h1, r1⟩ := hv.tup e1 h.same
    exact call_list_of pins s σ H _ us Q I r ⟨a, vs, rfl, .inr (.of h1), fun p hp => k _ _ (h.lst hp r1)⟩
  · obtain ⟨v, t, rfl, hv, e1, ss⟩ := hx.one
    cases e
    obtain ⟨a, vs, rfl, h1, r1, r2⟩ := hv.lst e1 h.same
    exact call_tuple_of pins s σ H _ us Q I r ⟨a, vs, rfl, .inl ⟨h1, fun p hp => k _ _ (h.tup hp (r2 (ss (hst.resolve_left (by decide)))))⟩⟩
  · obtain ⟨v, t, rfl, hv, e1, ss⟩ := hx.one
    cases e
    obtain ⟨a, vs, rfl, h1, r1⟩ := hv.tup e1 h.same
    exact call_tuple_of pins s σ H _ us Q I r ⟨a, vs, rfl, .inr ⟨.of h1, k _ _ (h.push (hv.sh e1 rfl))⟩⟩
  · obtain ⟨v, t, rfl, hv, e1, ss⟩ := hx.one
    obtain ⟨a, vs, rfl, h1, r1, r2⟩ := hv.lst e1 h.same
    unfold sortB at e
    split at e
    · rename_i ns e2
      cases e
      rw [asInts_ok e2] at r1
      rw [r1.ints] at h1
      refine cr_sortedI pins s σ H _ us Q I r ⟨a, ns, rfl, h1, fun ns' p p1 p2 hp => ?_⟩
      have e3 : ns' = isortI ns := sorted_uniq (p1.trans (isortI_perm ns).symm) p2 (isortI_sorted ns)
      subst e3
      exact k _ _ (h.lst hp (Reps.of_ints _))
    · split at e
      · rename_i ho
        cases e
        obtain ⟨d1, d2, d3, d4⟩ := srtOk_ok ho
        exact cr_sortedD (Nat.lt_of_succ_lt hu) pins s σ H _ us Q I r ⟨a, vs, _, rfl, h1, toDs_ok r1 d1, d2, d3, d4, fun p hp => k _ _ (h.lst hp (srtD_rep (r2 (ss (hst.resolve_left (by decide))))))⟩
      · cases e
  · cases e
theorem ty_of {x : V} {t : Sl} {b : Bool} {T : String} {T' : List (V × Bw)} (h : SAx X.K H0 M0 ρ env T' H E M) (hx : SlOk X.K H0 M H x t) (e : isi2 t.pv T = some b) : ∃ ty : String, TyX X.K H x (.type ty) ∧ kitB ty T = some b := by
  unfold isi2 at e
  split at e
  · rename_i e1; rw [hx.non e1]; exact ⟨_, .base .non, e⟩
  · rename_i e1; rw [hx.bl e1]; exact ⟨_, .base (.bl _), e⟩
  · rename_i e1; rw [hx.int e1]; exact ⟨_, .base (.int _), e⟩
  · rename_i e1; rw [hx.str e1]; exact ⟨_, .base (.str _), e⟩
  · rename_i e1
    obtain ⟨a, vs, rfl, h1, _, _⟩ := hx.lst e1 h.same
    rcases h1 with (h1 | ⟨o, h1⟩) | ⟨o, its, n, h1, h2, _⟩
    · exact ⟨_, .base (.lst h1), e⟩
    · exact ⟨_, .base (.frz h1), e⟩
    · exact ⟨_, .kList h1 h2, e⟩
  · rename_i e1
    obtain ⟨a, vs, rfl, h1, r1⟩ := hx.tup e1 h.same
    exact ⟨_, .base (.tup h1), e⟩
  · rename_i e1
    obtain ⟨a, rfl, ⟨_, kvs, hh, _⟩ | ⟨_, kvs, hh, _⟩⟩ := hx.dct e1 h.same
    · exact ⟨_, .base (.dK hh), e⟩
    · exact ⟨_, .base (.dT hh), e⟩
  all_goals cases e
end
end Me
/-! Me6: each expression, test, walk does what the pure reading says. -/
namespace Me
open PySem PySem.Spec PyProof.Rows L2
open NdefX (TabsN NTab TabN)
open LamX (CodeO TabB ExtN)
variable [Reg]

section
variable {X : Cx} {K : PySem.W.Frag} {a b c : Expr} {pos : Pos} {f g h : PEnv → Option (Bw × PEnv)} {cf cg ch : Bool}

theorem ob {α β : Type} {x : Option α} {k : α → Option β} {r : β} (e : x.bind k = some r) : ∃ y, x = some y ∧ k y = some r := Option.bind_eq_some_iff.mp e
theorem om {α β : Type} {x : Option α} {k : α → β} {r : β} (e : x.map k = some r) : ∃ y, x = some y ∧ k y = r := Option.map_eq_some_iff.mp e

theorem ro_l {c1 c2 : Bool} {P : Prop} (h : (c1 && c2) = false → P) : c1 = false → P := fun z => h (by rw [z]; rfl)
theorem ro_r {c1 c2 : Bool} {P : Prop} (h : (c1 && c2) = false → P) : c2 = false → P := fun z => h (by rw [z, Bool.and_false])
theorem ro_snoc {c : Bool} {T : List (V × Bw)} {v : V} {x : Bw} (h : c = false → Roots T) (g : gd x c = true) : c = false → Roots (T ++ [(v, x)]) := fun z => (h z).append (Roots.of_gd (by rw [← z]; exact g))
theorem og {α : Type} {p : Bool} {x : Option α} {r : α} (e : (if p = true then x else none) = some r) : p = true ∧ x = some r := by
  cases p with
  | true => exact ⟨rfl, e⟩
  | false => cases e
theorem gd_l {x : Bw} {a b : Bool} (h : gd x (a && b) = true) : gd x a = true := by
  cases x with
  | t s => rfl
  | b i π =>
    cases π with
    | nil => rfl
    | cons n π => exact (Bool.and_eq_true_iff.mp h).1
theorem gd_r {x : Bw} {a b : Bool} (h : gd x (a && b) = true) : gd x b = true := by
  cases x with
  | t s => rfl
  | b i π =>
    cases π with
    | nil => rfl
    | cons n π => exact (Bool.and_eq_true_iff.mp h).2
theorem se_var {i : Nat} {x : Str} (hN : X.N[i]? = some x) (hv : Vis X.env.scope x) (hd : (x == ("__debug__" : Str)) = false) (hcd : (x == ("__classdict__" : Str)) = false) :
    PE X (.Name x pos) (tE X.K cf fun env => match env.getD i none with | some (.sh p) => some (.t (.sh p), env) | some _ => some (.b i [], env) | none => none) := by
  refine PE_imp (pe_var hN hv hd hcd) fun σ H Q q => ?_
  obtain ⟨H0, M0, env, T, r, e, sa, ro, k⟩ := q
  obtain ⟨E, M, sx⟩ := sa
  dsimp only at e
  cases q : env.getD i none with
  | none => rw [q] at e; cases e
  | some s =>
    obtain ⟨v, h1, h2⟩ := sx.var q
    rw [q] at e
    have hb : SA X.K H0 M0 σ env (T ++ [(v, .b i [])]) H := sx.pushB h1 .nil (by rw [q]; rfl)
    cases s with
    | sh p =>
      cases e
      obtain ⟨A, t⟩ := h2
      cases t with
      | sh r => exact ⟨v, h1, k v H (sx.push r)⟩
    | own xs => cases e; exact ⟨v, h1, k v H hb⟩
    | nst xs => cases e; exact ⟨v, h1, k v H hb⟩
    | dct t xs => cases e; exact ⟨v, h1, k v H hb⟩
    | ins c ns xs => cases e; exact ⟨v, h1, k v H hb⟩
    | tpl hs xs ps => cases e; exact ⟨v, h1, k v H hb⟩
/-- a constant -/
theorem se_const {e : Expr} {v : V} {p : PV} (hc : PE X e (tC v)) (r : ∀ M, Rep X.K M v p) : PE X e (tE X.K cf fun env => some (.t (.sh p), env)) := by
  refine PE_imp hc fun σ H Q q => ?_
  obtain ⟨H0, M0, env, T, r', e, sa, ro, k⟩ := q
  cases e
  obtain ⟨E, M, sx⟩ := sa
  exact k v H (sx.push (r M))
theorem mem2 {T : List (V × Bw)} {x y : V × Bw} : x ∈ T ++ [x] ++ [y] ∧ y ∈ T ++ [x] ++ [y] := by simp
/-- an operation on two values at hand, then both leave -/
theorem se_op {r : R2} {G : PEnv → Bw → Bw → Option (Bw × PEnv)}
    (hr : ∀ (σ : L2.St) (H H0 M0 : Hp) (env : PEnv) (T : List (V × Bw)) (x y : V) (bx bw : Bw) (q : Bw × PEnv) (Q : VK), SA X.K H0 M0 σ env (T ++ [(x, bx)] ++ [(y, bw)]) H → G env bx bw = some q → (∀ v H', SA X.K H0 M0 σ q.2 (T ++ [(v, q.1)]) H' → Q v H') → r x y H Q) :
    ∀ σ H Q, tE X.K (cf && cg) (fun env => (f env).bind fun r1 => if gd r1.1 cg = true then (g r1.2).bind fun q => G q.2 r1.1 q.1 else none) σ H Q → tOp r (tE X.K cf f) (tE X.K cg g) σ H Q := fun σ H Q q => by
  obtain ⟨H0, M0, env, T, r', e, sa, ro, k⟩ := q
  obtain ⟨r1, e1, e⟩ := ob e
  obtain ⟨hg, e⟩ := og e
  obtain ⟨r2, e2, e⟩ := ob e
  exact ⟨H0, M0, env, T, r1, e1, sa, ro_l ro, fun x H1 sa1 => ⟨H0, M0, r1.2, _, r2, e2, sa1, ro_snoc (ro_r ro) hg, fun y H2 sa2 => hr σ H2 H0 M0 r2.2 T x y r1.1 r2.1 r' Q sa2 e k⟩⟩
/-- what an operation's rule wants: by the values that stand -/
noncomputable def rOp (X : Cx) (fv : Value → Value → Sem Value) : R2 := fun x y H Q => ∀ (pins : List (Addr × Obj)) (s : Shared) (σ : L2.St) (v u : Value), Inv X pins σ H s → RelV x v → RelV y u → wpAny (model X.prog X.w) X.A (fv v u) (EP X pins σ Q) X.xe s
theorem op_r (fv : Value → Value → Sem Value) : OpR X fv (rOp X fv) := fun pins s σ H x y v u Q I rx ry q => q pins s σ v u I rx ry
end

section
variable {X : Cx} {a b c : Expr} {pos : Pos} {f g h : PEnv → Option (Bw × PEnv)} {cf cg ch : Bool}
theorem stB_st {env : PEnv} {x : Bw} {s : Sl} (h : stB env x = true) (e : slb env x = some s) : s.strict = true := by
  unfold stB at h
  rw [e] at h
  exact h
theorem se_bin {op : Operator} (ha : PE X a (tE X.K cf f)) (hb : PE X b (tE X.K cg g)) :
    PE X (.BinOp a op b pos) (tE X.K (cf && cg) fun env => (f env).bind fun r => if gd r.1 cg = true then (g r.2).bind fun q => if (stB q.2 r.1 && stB q.2 q.1) = true then (pvb q.2 r.1).bind fun x => (pvb q.2 q.1).bind fun y => (bin2 op x y).map fun z => (.t z, q.2) else none else none) := by
  refine PE_imp (pe_op (op_r (binaryOp op)) ha hb) ?_
  refine se_op (r := rOp X (binaryOp op)) (G := fun env bx bw => if (stB env bx && stB env bw) = true then (pvb env bx).bind fun x => (pvb env bw).bind fun y => (bin2 op x y).map fun z => (.t z, env) else none) ?_
  intro σ H H0 M0 env T x y bx bw q Q sa e k pins s σ' v u I rx ry
  obtain ⟨hs, e⟩ := og e
  simp only [Bool.and_eq_true] at hs
  obtain ⟨p1, e1, e⟩ := ob e
  obtain ⟨p2, e2, e⟩ := ob e
  obtain ⟨z, e3, rfl⟩ := om e
  obtain ⟨E, M, sx⟩ := sa
  obtain ⟨s1, g1, rfl⟩ := pvb_sl e1
  obtain ⟨s2, g2, rfl⟩ := pvb_sl e2
  exact op_bin I rx ry sx (sx.get mem2.1 g1) (sx.get mem2.2 g2) ⟨stB_st hs.1 g1, stB_st hs.2 g2⟩ e3 fun v H' sa' => k v H' (by have := SA.mid (T := T) (A := [(x, bx)] ++ [(y, bw)]) (B := [(v, .t z)]) (by simpa using sa'); exact this)
theorem Reps.rep {K : PySem.W.Frag} {M : Hp} {vs : List V} {ps : List PV} (r : Reps K M vs ps) : ∀ n : Nat, Reps K M (List.replicate n vs).flatten (List.replicate n ps).flatten
  | 0 => .nil
  | n + 1 => by
    rw [List.replicate_succ, List.replicate_succ, List.flatten_cons, List.flatten_cons]
    exact r.append (Reps.rep r n)
theorem se_cmp {op : CmpOp} (hu : X.A.units + 65 < cLine) (ha : PE X a (tE X.K cf f)) (hb : PE X b (tE X.K cg g)) (hm : behindInMarks op b = false) :
    PE X (.Compare a [op] [b] pos) (tE X.K (cf && cg) fun env => (f env).bind fun r => if gd r.1 cg = true then (g r.2).bind fun q => (pvb q.2 r.1).bind fun x => (pvb q.2 q.1).bind fun y => (cmp2 op x y).map fun z => (.t (.sh (.bl z)), q.2) else none) := by
  refine PE_imp (pe_cmpR (op_r (compareOp op)) ha hb hm) ?_
  refine se_op (r := rOp X (compareOp op)) (G := fun env bx bw => (pvb env bx).bind fun x => (pvb env bw).bind fun y => (cmp2 op x y).map fun z => (.t (.sh (.bl z)), env)) ?_
  intro σ H H0 M0 env T x y bx bw q Q sa e k pins s σ' v u I rx ry
  obtain ⟨p1, e1, e⟩ := ob e
  obtain ⟨p2, e2, e⟩ := ob e
  obtain ⟨z, e3, rfl⟩ := om e
  obtain ⟨E, M, sx⟩ := sa
  obtain ⟨s1, g1, rfl⟩ := pvb_sl e1
  obtain ⟨s2, g2, rfl⟩ := pvb_sl e2
  refine op_cmp hu I rx ry sx (sx.get mem2.1 g1) (sx.get mem2.2 g2) e3 (k _ _ ?_)
  have := (sx.push (.bl z) : SA X.K H0 M0 σ env _ H)
  exact SA.mid (T := T) (A := [(x, bx)] ++ [(y, bw)]) (by simpa using this)
theorem st_cmp {op : CmpOp} (hu : X.A.units + 65 < cLine) (ha : PE X a (tE X.K cf f)) (hb : PE X b (tE X.K cg g)) (hm : behindInMarks op b = false) :
    PT X (.Compare a [op] [b] pos) (tTs X.K (cf && cg) fun env => (f env).bind fun r => if gd r.1 cg = true then (g r.2).bind fun q => (pvb q.2 r.1).bind fun x => (pvb q.2 q.1).bind fun y => (cmp2 op x y).map fun z => (z, q.2) else none) := by
  refine PT_imp (pt_cmpR (op_r (compareOp op)) ha hb hm) fun σ H Q q => ?_
  obtain ⟨H0, M0, env, T, r', e, sa, ro, k⟩ := q
  obtain ⟨r1, e1, e⟩ := ob e
  obtain ⟨hg, e⟩ := og e
  obtain ⟨r2, e2, e⟩ := ob e
  obtain ⟨p1, e3, e⟩ := ob e
  obtain ⟨p2, e4, e⟩ := ob e
  obtain ⟨z, e5, rfl⟩ := om e
  refine ⟨H0, M0, env, T, r1, e1, sa, ro_l ro, fun x H1 sa1 => ⟨H0, M0, r1.2, _, r2, e2, sa1, ro_snoc (ro_r ro) hg, fun y H2 sa2 => ?_⟩⟩
  intro pins s σ' v u I rx ry
  obtain ⟨E, M, sx⟩ := id sa2
  obtain ⟨s1, g1, rfl⟩ := pvb_sl e3
  obtain ⟨s2, g2, rfl⟩ := pvb_sl e4
  refine op_cmp hu I rx ry sx (sx.get mem2.1 g1) (sx.get mem2.2 g2) e5 ⟨z, rfl, k _ ?_⟩
  exact (sa2.left).left
theorem chain_core {op op' : CmpOp} (hu : X.A.units + 65 < cLine) {σ : L2.St} {H : Hp} {Q : VK} {H0 M0 : Hp} {env : PEnv} {T : List (V × Bw)} {r' : Bool × PEnv} (sa : SA X.K H0 M0 σ env T H)
    (e : fChain f g h cg ch op op' env = some r') (ro : (cf && (cg && ch)) = false → Roots T)
    (k : ∀ H', SA X.K H0 M0 σ r'.2 T H' → Q (.bl r'.1) H') : tChain (rOp X (compareOp op)) (rOp X (compareOp op')) (tE X.K cf f) (tE X.K cg g) (tE X.K ch h) σ H Q := by
  unfold fChain at e
  obtain ⟨r1, e1, e⟩ := ob e
  obtain ⟨hg1, e⟩ := og e
  obtain ⟨r2, e2, e⟩ := ob e
  obtain ⟨hg2, e⟩ := og e
  obtain ⟨p1, e3, e⟩ := ob e
  obtain ⟨p2, e4, e⟩ := ob e
  obtain ⟨z, e5, e⟩ := ob e
  refine ⟨H0, M0, env, T, r1, e1, sa, ro_l ro, fun x H1 sa1 => ⟨H0, M0, r1.2, _, r2, e2, sa1, ro_snoc (ro_l (ro_r ro)) (gd_l hg1), fun y H2 sa2 => ?_⟩⟩
  intro pins s σ' v u I rx ry
  obtain ⟨E, M, sx⟩ := id sa2
  obtain ⟨s1, g1, rfl⟩ := pvb_sl e3
  obtain ⟨s2, g2, rfl⟩ := pvb_sl e4
  refine op_cmp hu I rx ry sx (sx.get mem2.1 g1) (sx.get mem2.2 g2) e5 ⟨z, rfl, ?_⟩
  cases z with
  | false =>
    rw [if_neg Bool.false_ne_true] at e ⊢
    cases e
    exact k _ (sa2.left).left
  | true =>
    rw [if_pos rfl] at e ⊢
    obtain ⟨r3, e6, e⟩ := ob e
    obtain ⟨p3, e7, e⟩ := ob e
    obtain ⟨p4, e8, e⟩ := ob e
    obtain ⟨z', e9, rfl⟩ := om e
    refine ⟨H0, M0, r2.2, _, r3, e6, sa2, ro_snoc (ro_snoc (ro_r (ro_r ro)) (gd_r hg1)) hg2, fun w H3 sa3 => ?_⟩
    intro pins s σ' v u I rx ry
    obtain ⟨E', M', sx'⟩ := id sa3
    obtain ⟨s3, g3, rfl⟩ := pvb_sl e7
    obtain ⟨s4, g4, rfl⟩ := pvb_sl e8
    refine op_cmp hu I rx ry sx' (sx'.get (by simp) g3) (sx'.get (by simp) g4) e9 (k _ ?_)
    exact ((sa3.left).left).left
theorem se_chain {op op' : CmpOp} (hu : X.A.units + 65 < cLine) (ha : PE X a (tE X.K cf f)) (hb : PE X b (tE X.K cg g)) (hc : PE X c (tE X.K ch h)) (hm : lastMarks [op, op'] [b, c] = false) :
    PE X (.Compare a [op, op'] [b, c] pos) (tE X.K (cf && (cg && ch)) fun env => (fChain f g h cg ch op op' env).map fun z => (.t (.sh (.bl z.1)), z.2)) := by
  refine PE_imp (pe_chain (op_r (compareOp op)) (op_r (compareOp op')) ha hb hc hm) fun σ H Q q => ?_
  obtain ⟨H0, M0, env, T, r', e, sa, ro, k⟩ := q
  obtain ⟨z, e3, rfl⟩ := om e
  refine chain_core hu sa e3 ro fun H' sa' => ?_
  obtain ⟨E, M, sx⟩ := sa'
  exact k _ _ (sx.push (.bl z.1))
theorem st_chain {op op' : CmpOp} (hu : X.A.units + 65 < cLine) (ha : PE X a (tE X.K cf f)) (hb : PE X b (tE X.K cg g)) (hc : PE X c (tE X.K ch h)) (hm : lastMarks [op, op'] [b, c] = false) :
    PT X (.Compare a [op, op'] [b, c] pos) (tTs X.K (cf && (cg && ch)) (fChain f g h cg ch op op')) := by
  refine PT_imp (pt_chain (op_r (compareOp op)) (op_r (compareOp op')) ha hb hc hm) fun σ H Q q => ?_
  obtain ⟨H0, M0, env, T, r', e, sa, ro, k⟩ := q
  exact chain_core (Q := fun x H' => ∃ k, x = .bl k ∧ Q k H') hu sa e ro fun H' sa' => ⟨_, rfl, k _ sa'⟩
/-- one value at hand, then it leaves -/
theorem se_neg (ha : PE X a (tE X.K cf f)) : PE X (.UnaryOp .USub a pos) (tE X.K cf fun env => (f env).bind fun r => match pvb r.2 r.1 with | some (.int i) => some (.t (.sh (.int (-i))), r.2) | _ => none) := by
  refine PE_imp (pe_un un_neg ha) fun σ H Q q => ?_
  obtain ⟨H0, M0, env, T, r', e, sa, ro, k⟩ := q
  obtain ⟨r1, e1, e⟩ := ob e
  refine ⟨H0, M0, env, T, r1, e1, sa, ro, fun x H1 sa1 => ?_⟩
  split at e
  · rename_i i e2
    cases e
    obtain ⟨E, M, sx⟩ := id sa1
    obtain ⟨s1, g1, g2⟩ := pvb_sl e2
    refine ⟨i, (sx.get (by simp) g1).int g2, k _ _ ?_⟩
    obtain ⟨E', M', sx'⟩ := sa1.left
    exact sx'.push (.int _)
  · cases e
theorem se_not (ha : PE X a (tE X.K cf f)) : PE X (.UnaryOp .Not a pos) (tE X.K cf fun env => (f env).bind fun r => (pvb r.2 r.1).bind fun x => (truth x).map fun b => (.t (.sh (.bl (!b))), r.2)) := by
  refine PE_imp (pe_notT ha) fun σ H Q q => ?_
  obtain ⟨H0, M0, env, T, r', e, sa, ro, k⟩ := q
  obtain ⟨r1, e1, e⟩ := ob e
  obtain ⟨x1, e2, e⟩ := ob e
  obtain ⟨c, e3, rfl⟩ := om e
  refine ⟨H0, M0, env, T, r1, e1, sa, ro, fun x H1 sa1 => ?_⟩
  obtain ⟨E, M, sx⟩ := id sa1
  obtain ⟨s1, g1, rfl⟩ := pvb_sl e2
  refine ⟨c, tru_of sx (sx.get (by simp) g1) e3, k _ _ ?_⟩
  obtain ⟨E', M', sx'⟩ := sa1.left
  exact sx'.push (.bl _)
theorem se_and {rest : List Expr} (ha : PE X a (tE X.K cf f)) (hb : PE X (.BoolOp .And (b :: rest) pos) (tE X.K cg g)) :
    PE X (.BoolOp .And (a :: b :: rest) pos) (tE X.K (cf && cg) fun env => (f env).bind fun r => match pvb r.2 r.1 with | some (.bl true) => g r.2 | some (.bl false) => some (.t (.sh (.bl false)), r.2) | _ => none) := by
  refine PE_imp (pe_and ha hb) fun σ H Q q => ?_
  obtain ⟨H0, M0, env, T, r', e, sa, ro, k⟩ := q
  obtain ⟨r1, e1, e⟩ := ob e
  refine ⟨H0, M0, env, T, r1, e1, sa, ro_l ro, fun x H1 sa1 => ?_⟩
  split at e
  · rename_i e2
    obtain ⟨E, M, sx⟩ := id sa1
    obtain ⟨s1, g1, g2⟩ := pvb_sl e2
    refine ⟨true, (sx.get (by simp) g1).bl g2, ?_⟩
    rw [if_pos rfl]
    exact ⟨H0, M0, r1.2, T, r', e, sa1.left, ro_r ro, k⟩
  · rename_i e2
    cases e
    obtain ⟨E, M, sx⟩ := id sa1
    obtain ⟨s1, g1, g2⟩ := pvb_sl e2
    refine ⟨false, (sx.get (by simp) g1).bl g2, ?_⟩
    rw [if_neg Bool.false_ne_true]
    obtain ⟨E', M', sx'⟩ := sa1.left
    exact k _ _ (sx'.push (.bl _))
  · cases e
theorem se_or {rest : List Expr} (ha : PE X a (tE X.K cf f)) (hb : PE X (.BoolOp .Or (b :: rest) pos) (tE X.K cg g)) :
    PE X (.BoolOp .Or (a :: b :: rest) pos) (tE X.K (cf && cg) fun env => (f env).bind fun r => match pvb r.2 r.1 with | some (.bl false) => g r.2 | some (.bl true) => some (.t (.sh (.bl true)), r.2) | _ => none) := by
  refine PE_imp (pe_or ha hb) fun σ H Q q => ?_
  obtain ⟨H0, M0, env, T, r', e, sa, ro, k⟩ := q
  obtain ⟨r1, e1, e⟩ := ob e
  refine ⟨H0, M0, env, T, r1, e1, sa, ro_l ro, fun x H1 sa1 => ?_⟩
  split at e
  · rename_i e2
    obtain ⟨E, M, sx⟩ := id sa1
    obtain ⟨s1, g1, g2⟩ := pvb_sl e2
    refine ⟨false, (sx.get (by simp) g1).bl g2, ?_⟩
    rw [if_neg Bool.false_ne_true]
    exact ⟨H0, M0, r1.2, T, r', e, sa1.left, ro_r ro, k⟩
  · rename_i e2
    cases e
    obtain ⟨E, M, sx⟩ := id sa1
    obtain ⟨s1, g1, g2⟩ := pvb_sl e2
    refine ⟨true, (sx.get (by simp) g1).bl g2, ?_⟩
    rw [if_pos rfl]
    obtain ⟨E', M', sx'⟩ := sa1.left
    exact k _ _ (sx'.push (.bl _))
  · cases e
variable {ft gt : PEnv → Option (Bool × PEnv)} {ct : Bool}
theorem se_ife (hc : PT X c (tTs X.K ct ft)) (ha : PE X a (tE X.K cf f)) (hb : PE X b (tE X.K cg g)) : PE X (.IfExp c a b pos) (tE X.K (ct && (cf && cg)) fun env => (ft env).bind fun r => if r.1 then f r.2 else g r.2) := by
  refine PE_imp (pe_ifExp hc ha hb) fun σ H Q q => ?_
  obtain ⟨H0, M0, env, T, r', e, sa, ro, k⟩ := q
  obtain ⟨r1, e1, e⟩ := ob e
  refine ⟨H0, M0, env, T, r1, e1, sa, ro_l ro, fun H1 sa1 => ?_⟩
  obtain ⟨b1, env1⟩ := r1
  cases b1 with
  | true => exact ⟨H0, M0, env1, T, r', e, sa1, ro_l (ro_r ro), k⟩
  | false => exact ⟨H0, M0, env1, T, r', e, sa1, ro_r (ro_r ro), k⟩
/-- x[k], a part of a tree or a value -/
theorem ixB_ok (hu : X.A.units + 65 < cLine) {pins : List (Addr × Obj)} {s : Shared} {σ ρ : L2.St} {H H0 M0 : Hp} {x y : V} {v u : Value} {Q : VK} {env : PEnv} {T : List (V × Bw)} {bx bw : Bw} (value slice : Expr) (I : Inv X pins σ H s) (rx : RelV x v) (ry : RelV y u)
    (sa : SA X.K H0 M0 ρ env (T ++ [(x, bx)] ++ [(y, bw)]) H) {p : PV} (e1 : pvb env bw = some p) {z : Bw} (e : ixB env bx p = some z) (hs : subscripted slice false v u = operate [v, u] (getItem v u))
    (k : ∀ v H', SA X.K H0 M0 ρ env (T ++ [(v, z)]) H' → Q v H') : wpAny (model X.prog X.w) X.A (subscriptTail value slice v u) (EP X pins σ Q) X.xe s := by
  obtain ⟨E, M, sx⟩ := id sa
  obtain ⟨s2, g2, rfl⟩ := pvb_sl e1
  have hy := sx.get mem2.2 g2
  unfold ixB at e
  split at e
  · rename_i xs i g1 e2
    obtain ⟨n, e3, e⟩ := ob e
    obtain ⟨t, e4, e⟩ := ob e
    obtain ⟨⟨A, tr⟩, _⟩ := sx.get mem2.1 g1
    cases tr with
    | nst =>
      rename_i a0 vs As0 m h0 hh rs
      obtain ⟨w, A', B', C', q1, q2, q3, _⟩ := rs.get e4
      have hat : atI vs i = some w := by
        unfold atI
        rw [rs.length, e3]
        exact q1
      cases hy.int e2
      refine op_ixN value slice I rx ry (.of hh) hat hs (k w H ?_)
      obtain ⟨E', M', sx'⟩ := (sa.left).left
      split at e
      · cases e
        cases q3 with
        | sh r =>
          have := sx.push r
          exact SA.mid (T := T) (A := [(_, bx)] ++ [(_, bw)]) (by simpa using this)
      · rename_i j π _ _ _
        cases e
        obtain ⟨v0, u1, u2, u3⟩ := sx.bor (.ref a0) j π (by simp)
        exact sx'.pushB u1 (u2.snoc (.lst hh q1 .nil)) u3
      · cases e
  · cases e
  · rename_i s0 h2 g1 h1
    obtain ⟨p, e3, rfl⟩ := om e
    have hst : s0.strict = true := by
      cases s0 with
      | nst xs =>
        cases hk : s2.pv with
        | int i => exact (h1 xs i hk rfl).elim
        | _ => rw [hk] at e3; simp [Sl.pv, ix2] at e3
      | ins c ns xs => exact (h2 c ns xs rfl).elim
      | _ => rfl
    refine op_ix hu value slice I rx ry sx (sx.get mem2.1 g1) hy hst e3 hs fun v H' sa' => k v H' (SA.mid (T := T) (A := [(x, bx)] ++ [(y, bw)]) (B := [(v, .t (.sh p))]) (by simpa using sa'))
  · cases e
theorem se_ix (hu : X.A.units + 65 < cLine) (ha : PE X a (tE X.K cf f)) (hb : PE X b (tE X.K cg g)) (hs : PlainIx b) :
    PE X (.Subscript a b pos) (tE X.K (cf && cg) fun env => (f env).bind fun r => if gd r.1 cg = true then (g r.2).bind fun q => (pvb q.2 q.1).bind fun y => (ixB q.2 r.1 y).map fun z => (z, q.2) else none) := by
  have hr : IxR X (fun x y H Q => ∀ (value slice : Expr) (pins : List (Addr × Obj)) (s : Shared) (σ : L2.St) (v u : Value), Inv X pins σ H s → RelV x v → RelV y u → subscripted slice false v u = operate [v, u] (getItem v u) → wpAny (model X.prog X.w) X.A (subscriptTail value slice v u) (EP X pins σ Q) X.xe s) :=
    fun value slice pins s σ H x y v u Q I rx ry q hs => q value slice pins s σ v u I rx ry hs
  refine PE_imp (pe_ix hr ha hb hs) fun σ H Q q => ?_
  obtain ⟨H0, M0, env, T, r', e, sa, ro, k⟩ := q
  obtain ⟨r1, e1, e⟩ := ob e
  obtain ⟨hg, e⟩ := og e
  obtain ⟨r2, e2, e⟩ := ob e
  obtain ⟨p2, e4, e⟩ := ob e
  obtain ⟨z, e5, rfl⟩ := om e
  refine ⟨H0, M0, env, T, r1, e1, sa, ro_l ro, fun x H1 sa1 => ⟨H0, M0, r1.2, _, r2, e2, sa1, ro_snoc (ro_r ro) hg, fun y H2 sa2 => ?_⟩⟩
  intro value slice pins s σ' v u I rx ry hs
  exact ixB_ok hu value slice I rx ry sa2 e4 e5 hs k
variable {fl fh : PEnv → Option (Option Int × PEnv)} {lo hi : Option Expr} {p2 : Pos}
theorem so_no : PO X none (tOs X.K cf fun env => some (none, env)) := by
  refine PO_imp po_none fun σ H Q q => ?_
  obtain ⟨H0, M0, env, T, r', e, sa, ro, k⟩ := q
  cases e
  exact k _ sa
theorem so_some (ha : PE X a (tE X.K cf f)) : PO X (some a) (tOs X.K cf fun env => (f env).bind fun r => match pvb r.2 r.1 with | some (.int i) => some (some i, r.2) | _ => none) := by
  refine PO_imp (po_some ha) fun σ H Q q => ?_
  obtain ⟨H0, M0, env, T, r', e, sa, ro, k⟩ := q
  obtain ⟨r1, e1, e⟩ := ob e
  refine ⟨H0, M0, env, T, r1, e1, sa, ro, fun x H1 sa1 => ?_⟩
  split at e
  · rename_i i e2
    cases e
    obtain ⟨E, M, sx⟩ := id sa1
    obtain ⟨s1, g1, g2⟩ := pvb_sl e2
    exact ⟨i, (sx.get (by simp) g1).int g2, k _ sa1.left⟩
  · cases e
theorem se_slc (ha : PE X a (tE X.K cf f)) (hl : PO X lo (tOs X.K cg fl)) (hh : PO X hi (tOs X.K ch fh)) :
    PE X (.Subscript a (.Slice lo hi none p2) pos) (tE X.K (cf && (cg && ch)) fun env => (f env).bind fun r => if gd r.1 (cg && ch) = true then (fl r.2).bind fun l => (fh l.2).bind fun h => if stB h.2 r.1 = true then (pvb h.2 r.1).bind fun x => (slc3 x l.1 h.1).map fun z => (.t z, h.2) else none else none) := by
  have hr : SlR X (fun x lo hi H Q => ∀ (pins : List (Addr × Obj)) (s : Shared) (σ : L2.St) (v vl vu : Value) (sl : Addr), Inv X pins σ H s → RelV x v → s.heap.IsSliceOf sl vl vu .none → IsPart vl lo → IsPart vu hi →
    ∃ T id, typeLookup (.type T) "__getitem__" = pure (some (.builtin id)) ∧ s.TypeIs v T ∧ wpAny (model X.prog X.w) X.A (getItem v (.ref sl)) (EP X pins σ Q) X.xe s) :=
    fun pins s σ H x v vl vu lo hi sl Q I rx hs pl pu q => q pins s σ v vl vu sl I rx hs pl pu
  refine PE_imp (pe_slice hr ha hl hh) fun σ H Q q => ?_
  obtain ⟨H0, M0, env, T, r', e, sa, ro, k⟩ := q
  obtain ⟨r1, e1, e⟩ := ob e
  obtain ⟨hg, e⟩ := og e
  obtain ⟨r2, e2, e⟩ := ob e
  obtain ⟨r3, e3, e⟩ := ob e
  obtain ⟨hst, e⟩ := og e
  obtain ⟨p1, e4, e⟩ := ob e
  obtain ⟨z, e5, rfl⟩ := om e
  refine ⟨H0, M0, env, T, r1, e1, sa, ro_l ro, fun x H1 sa1 => ⟨H0, M0, r1.2, _, r2, e2, sa1, ro_snoc (ro_l (ro_r ro)) (gd_l hg), fun H2 sa2 => ⟨H0, M0, r2.2, _, r3, e3, sa2, ro_snoc (ro_r (ro_r ro)) (gd_r hg), fun H3 sa3 => ?_⟩⟩⟩
  intro pins s σ' v vl vu sl I rx hs pl pu
  obtain ⟨E, M, sx⟩ := id sa3
  obtain ⟨s1, g1, rfl⟩ := pvb_sl e4
  exact op_slc I rx hs pl pu sx (sx.get (by simp) g1) (stB_st hst g1) e5 fun v H' sa' => k v H' sa'.mid
/-! lists of expressions -/
variable {es : List Expr} {fs : PEnv → Option (List Bw × PEnv)}
theorem sa_nil : PA X [] (tAs X.K cf fun env => some ([], env)) := by
  refine PA_imp pa_nil fun σ H Q q => ?_
  obtain ⟨H0, M0, env, T, r', e, sa, ro, k⟩ := q
  cases e
  exact k [] H rfl (by simpa using sa)
theorem sa_cons (ha : PE X a (tE X.K cf f)) (hr : PA X es (tAs X.K cg fs)) (hs : starEach (a :: es) X.env = (false, eval a X.env) :: starEach es X.env) :
    PA X (a :: es) (tAs X.K (cf && cg) fun env => (f env).bind fun r => if gd r.1 cg = true then (fs r.2).map fun q => (r.1 :: q.1, q.2) else none) := by
  refine PA_imp (pa_cons ha hr hs) fun σ H Q q => ?_
  obtain ⟨H0, M0, env, T, r', e, sa, ro, k⟩ := q
  obtain ⟨r1, e1, e⟩ := ob e
  obtain ⟨hg, e⟩ := og e
  obtain ⟨r2, e2, rfl⟩ := om e
  refine ⟨H0, M0, env, T, r1, e1, sa, ro_l ro, fun x H1 sa1 => ⟨H0, M0, r1.2, _, r2, e2, sa1, ro_snoc (ro_r ro) hg, fun vs H2 hl sa2 => ?_⟩⟩
  exact k (x :: vs) H2 (by simp [hl]) (by simpa using sa2)
theorem reps_of {K : PySem.W.Frag} {H0 M0 H M : Hp} {σ : L2.St} {env : PEnv} {T : List (V × Bw)} {E : List (V × Sl)} (h : SAx K H0 M0 σ env T H E M) : ∀ {vs : List V} {ps : List PV}, vs.length = ps.length → (∀ e ∈ vs.zip (ps.map fun p => Bw.t (.sh p)), e ∈ T) → Reps K M vs ps
  | [], [], _, _ => .nil
  | [], p :: ps, hl, _ => by simp at hl
  | v :: vs, [], hl, _ => by simp at hl
  | v :: vs, p :: ps, hl, hm => by
    have h1 : (v, Bw.t (.sh p)) ∈ T := hm _ (by simp)
    obtain ⟨⟨A, t⟩, _⟩ := h.get (s := .sh p) h1 rfl
    cases t with
    | sh r => exact .cons r (reps_of h (by simpa using hl) fun e he => hm e (by simp at he ⊢; exact .inr he))
theorem se_tup {k1 : Nat} (hs : PA X es (tAs X.K cg fs)) : PE X (.Tuple es k1 pos) (tE X.K cg fun env => (fs env).bind fun r => (Me.fixs r.2 r.1).bind fun q => if q.1.length ≤ lim then some (.t (.sh (.tup q.1)), q.2) else none) := by
  refine PE_imp (pe_tup hs) fun σ H Q q => ?_
  obtain ⟨H0, M0, env, T, r', e, sa, ro, k⟩ := q
  obtain ⟨r1, e1, e⟩ := ob e
  obtain ⟨r2, e2, e⟩ := ob e
  refine ⟨H0, M0, env, T, r1, e1, sa, ro, fun vs H1 hl sa1 => ?_⟩
  obtain ⟨hl2, sa2⟩ := SA.fixs (B := []) hl (by simpa using sa1) e2
  split at e
  · rename_i hlim
    cases e
    refine ⟨by rw [hl, ← hl2]; exact le_line hlim, fun p hp => k _ _ ?_⟩
    obtain ⟨E, M, sx⟩ := id sa2
    exact SA.mid (sx.tup hp (reps_of sx (by rw [hl, hl2]) fun e he => by simp [he])) |> fun z => SA.mid (T := T) (A := vs.zip (r2.1.map fun p => Bw.t (.sh p))) (by simpa using z)
  · cases e
theorem se_lst (hs : PA X es (tAs X.K cg fs)) : PE X (.List es pos) (tE X.K cg fun env => (fs env).bind fun r => (Me.fixs r.2 r.1).bind fun q => if q.1.length ≤ lim then some (.t (.own q.1), q.2) else none) := by
  refine PE_imp (pe_lst hs) fun σ H Q q => ?_
  obtain ⟨H0, M0, env, T, r', e, sa, ro, k⟩ := q
  obtain ⟨r1, e1, e⟩ := ob e
  obtain ⟨r2, e2, e⟩ := ob e
  refine ⟨H0, M0, env, T, r1, e1, sa, ro, fun vs H1 hl sa1 => ?_⟩
  obtain ⟨hl2, sa2⟩ := SA.fixs (B := []) hl (by simpa using sa1) e2
  split at e
  · rename_i hlim
    cases e
    refine ⟨by rw [hl, ← hl2]; exact le_line hlim, fun p hp => k _ _ ?_⟩
    obtain ⟨E, M, sx⟩ := id sa2
    exact SA.mid (sx.lst hp (reps_of sx (by rw [hl, hl2]) fun e he => by simp [he])) |> fun z => SA.mid (T := T) (A := vs.zip (r2.1.map fun p => Bw.t (.sh p))) (by simpa using z)
  · cases e
end
end Me
/-! Me7: what is handed in and comes back. -/
namespace Me
open PySem PySem.Spec PyProof.Rows L2
open NdefX (TabsN NTab TabN)
open LamX (CodeO TabB ExtN)
variable [Reg]

section
variable {K : PySem.W.Frag} {H0 M0 M H : Hp} {σ : L2.St} {env : PEnv} {T L N A B : List (V × Bw)} {E : List (V × Sl)}
theorem tents_map_t : ∀ (vs : List V) (ss : List Sl), tents (vs.zip (ss.map Bw.t)) = vs.zip ss
  | [], _ => by simp [tents]
  | _ :: _, [] => by simp [tents]
  | v :: vs, s :: ss => by
    rw [List.map_cons, List.zip_cons_cons, tents_t, tents_map_t vs ss]
    rfl
theorem allT_zip (vs : List V) (ss : List Sl) : ∀ e ∈ vs.zip (ss.map Bw.t), ∃ v s, e = (v, Bw.t s) := fun e he => by
  obtain ⟨v, x⟩ := e
  have := (List.of_mem_zip he).2
  obtain ⟨s, _, rfl⟩ := List.mem_map.mp this
  exact ⟨v, s, rfl⟩
/-- ahead of a call and behind it: L is lent, N is shown -/
theorem lend_core2 (vw : Bool) (sx : SAx K H0 M0 σ env (T ++ (L ++ N)) H E M) (hL : ∀ e ∈ L, ∃ v s, e = (v, Bw.t s)) (ro : L = [] ∨ Roots T) (hN : vw = false → ∀ v x s, (v, x) ∈ N → slb env x = some s → ∃ p, s = .sh p) :
    ∃ H0c Mc, Hyp K H0c Mc Mc H (tents L) ∧ (∀ v x s, (v, x) ∈ N → slb env x = some s → Rep K Mc v s.pv) ∧ (vw = true → ∀ v i s, (v, Bw.b i []) ∈ N → env.getD i none = some s → Rep K Mc v s.pv) ∧
      ∀ {M1 H1 : Hp} {T1 : List (V × Bw)}, (∀ e ∈ T1, ∃ v s, e = (v, Bw.t s)) → Hyp K H0c Mc M1 H1 (tents T1) → (vw = true → Sl.flats ((tents T1).map (·.2)) = true) → SA K H0 M0 σ env (T ++ T1) H1 := by
  classical
  have h : Hyp K H0 M0 M H (tents L ++ (E ++ (tents T ++ tents N))) := by
    refine sx.hyp.perm ?_
    rw [tents_append, tents_append]
    have p1 : (tents T ++ (tents L ++ tents N)).Perm (tents L ++ (tents T ++ tents N)) := by
      rw [← List.append_assoc, ← List.append_assoc]
      exact List.Perm.append_right _ List.perm_append_comm
    refine (List.Perm.append_left E p1).trans ?_
    have := List.Perm.append_right (tents T ++ tents N) (List.perm_append_comm (l₁ := E) (l₂ := tents L))
    simpa [List.append_assoc] using this
  obtain ⟨As, t, n⟩ := h.ok
  obtain ⟨AL, AR, rfl, tl, tr⟩ := t.split
  generalize hBd : (fun b : Addr => vw = true ∧ b ∈ AR) = B
  have hB1 : ∀ b, B b → b ∈ AR := fun b z => by rw [← hBd] at z; exact z.2
  have hBM : ∀ b, B b → M b = none ∧ ∃ o, H b = some o ∧ trO o = true := fun b z => by
    obtain ⟨q1, _, q2⟩ := tr.mem b (hB1 b z)
    exact ⟨q1, q2⟩
  have disj : ∀ b, b ∈ AL → ¬ B b := fun b hb z => nodup_disj n hb (hB1 b z)
  generalize hMc : (fun b => if B b then H b else M b : Hp) = Mc
  generalize hH0 : (fun b => if b ∈ AL then none else (H b).filter ntO : Hp) = H0c
  have m1 : ∀ b, B b → Mc b = H b := fun b z => by rw [← hMc]; exact if_pos z
  have m2 : ∀ b, ¬ B b → Mc b = M b := fun b z => by rw [← hMc]; exact if_neg z
  have z1 : ∀ b, b ∈ AL → H0c b = none := fun b z => by rw [← hH0]; exact if_pos z
  have z3 : ∀ b o, H0c b = some o → b ∉ AL ∧ H b = some o ∧ ntO o = true := fun b o e => by
    by_cases z : b ∈ AL
    · rw [z1 b z] at e; cases e
    · rw [← hH0] at e
      have e' : (H b).filter ntO = some o := (if_neg z).symm.trans e
      exact ⟨z, (Option.filter_eq_some_iff.mp e').1, (Option.filter_eq_some_iff.mp e').2⟩
  have z2 : ∀ b o, b ∉ AL → H b = some o → ntO o = true → H0c b = some o := fun b o z e n => by
    rw [← hH0]
    exact (if_neg z).trans (Option.filter_eq_some_iff.mpr ⟨e, n⟩)
  have sMc : Same M Mc := fun b o e => by
    rw [m2 b fun z => by rw [(hBM b z).1] at e; cases e]
    exact e
  refine ⟨H0c, Mc, ⟨fun b o e => ?_, Same.refl _, fun b o e => .inl e, fun b o e => (z3 b o e).2.1, h.tab, fun b o e => (z3 b o e).2.2, fun b o e => ?_, AL, Trs.frame sMc tl fun b hb => ⟨by rw [m2 b (disj b hb)]; exact (tl.mem b hb).1, z1 b hb, rfl⟩, (List.nodup_append.mp n).1⟩, fun v x s hm hs => ?_, fun hv v i s hm hs => ?_, fun {M1 H1 T1} hT1 c hf => ?_⟩
  · by_cases z : B b
    · rw [m1 b z] at e; exact e
    · rw [m2 b z] at e; exact h.sub b o e
  · by_cases z : B b
    · rw [m1 b z] at e
      obtain ⟨_, o', q1, q2⟩ := hBM b z
      rw [e] at q1; cases q1
      exact trO_nt q2
    · rw [m2 b z] at e; exact h.ntM b o e
  · cases hv : vw with
    | false =>
      obtain ⟨p, rfl⟩ := hN hv v x s hm hs
      obtain ⟨⟨A, ta⟩, _⟩ := sx.get (List.mem_append_right _ (List.mem_append_right _ hm)) hs
      cases ta with
      | sh r => exact Rep.mono sMc r
    | true =>
      have key : ∃ A, (∀ b ∈ A, b ∈ AR) ∧ Tr K H0 M H v s A := by
        cases x with
        | t s' =>
          have e : s' = s := slb_t hs
          subst e
          exact tr.get (e := (v, s')) (List.mem_append_right _ (List.mem_append_right _ (List.mem_filterMap.mpr ⟨_, hm, rfl⟩)))
        | b i π =>
          obtain ⟨s0, e1, e2⟩ := slb_b hs
          obtain ⟨v0, E1, E2, h1, h2, _⟩ := sx.lv.split e1
          obtain ⟨A, sub, ta⟩ := tr.get (e := (v0, s0)) (List.mem_append_left _ (by rw [h2]; simp))
          obtain ⟨v1, A1, R, p, t1, nd, _⟩ := ta.zip e2
          obtain ⟨w0, g1, g2, _⟩ := sx.bor v i π (List.mem_append_right _ (List.mem_append_right _ hm))
          rw [h1] at g1; cases g1
          cases nd.uniq g2
          exact ⟨A1, fun b hb => sub b (p.mem_iff.mpr (List.mem_append_left _ hb)), t1⟩
      obtain ⟨A, sub, ta⟩ := key
      exact Tr.rep sMc ta fun b hb => m1 b (by rw [← hBd]; exact ⟨hv, sub b hb⟩)
  · obtain ⟨v0, E1, E2, h1, h2, _⟩ := sx.lv.split hs
    obtain ⟨A, sub, ta⟩ := tr.get (e := (v0, s)) (List.mem_append_left _ (by rw [h2]; simp))
    obtain ⟨w0, g1, g2, _⟩ := sx.bor v i [] (List.mem_append_right _ (List.mem_append_right _ hm))
    rw [h1] at g1; cases g1
    cases g2
    exact Tr.rep sMc ta fun b hb => m1 b (by rw [← hBd]; exact ⟨hv, sub b hb⟩)
  · have flB : (∀ b, ¬ B b) ∨ Sl.flats ((tents T1).map (·.2)) = true := by
      cases hv : vw with
      | false => exact .inl fun b z => by rw [← hBd] at z; rw [hv] at z; cases z.1
      | true => exact .inr (hf hv)
    obtain ⟨M2, sM2, h2⟩ := Hyp.back (AL := AL) (B := B) h (fun {A} tA => .inr fun b => by
      have : ∀ {E : List (V × Sl)} {A A' : List Addr}, TrE K H0 M H E A → TrE K H0 M H E A' → A = A' := by
        intro E
        induction E with
        | nil => intro A A' a a'; cases a; cases a'; rfl
        | cons e E ih =>
          obtain ⟨v, s⟩ := e
          intro A A' a a'
          obtain ⟨A1, B1, rfl, a1, b1⟩ := a.uncons
          obtain ⟨A2, B2, rfl, a2, b2⟩ := a'.uncons
          rw [ih b1 b2, Tr.addrs_uniq a1 a2]
      rw [this tA tl]) hBM z2 m1 m2 flB c
    refine ⟨E, M2, sx.lv, ?_, fun v i π hm => ?_⟩
    · refine (h2.perm (E' := E ++ tents (T ++ T1) ++ tents N) ?_).sublist (List.sublist_append_left _ _)
      rw [tents_append]
      have : (tents T1 ++ (E ++ (tents T ++ tents N))).Perm ((E ++ (tents T ++ tents N)) ++ tents T1) := List.perm_append_comm
      refine this.trans ?_
      simp only [List.append_assoc]
      refine List.Perm.append_left _ (List.Perm.append_left _ List.perm_append_comm)
    · have hm' : (v, Bw.b i π) ∈ T := by
        rcases List.mem_append.mp hm with q | q
        · exact q
        · obtain ⟨v', s', e⟩ := hT1 _ q
          cases e
      obtain ⟨u0, u1, u2, u3⟩ := sx.bor v i π (List.mem_append_left _ hm')
      refine ⟨u0, u1, ?_, u3⟩
      rcases ro with rfl | ro
      · cases tl
        exact u2.monoT fun b o e f => c.old b o (z2 b o (by simp) e (trO_nt f))
      · cases ro v i π hm'
        cases u2
        exact .nil
theorem lend_core (vw : Bool) (sx : SAx K H0 M0 σ env (T ++ (L ++ N)) H E M) (hL : ∀ e ∈ L, ∃ v s, e = (v, Bw.t s)) (ro : L = [] ∨ Roots T) (hN : vw = false → ∀ v x s, (v, x) ∈ N → slb env x = some s → ∃ p, s = .sh p) :
    ∃ H0c Mc, Hyp K H0c Mc Mc H (tents L) ∧ (∀ v x s, (v, x) ∈ N → slb env x = some s → Rep K Mc v s.pv) ∧
      ∀ {M1 H1 : Hp} {T1 : List (V × Bw)}, (∀ e ∈ T1, ∃ v s, e = (v, Bw.t s)) → Hyp K H0c Mc M1 H1 (tents T1) → (vw = true → Sl.flats ((tents T1).map (·.2)) = true) → SA K H0 M0 σ env (T ++ T1) H1 :=
  let ⟨H0c, Mc, h1, h2, _, h3⟩ := lend_core2 vw sx hL ro hN
  ⟨H0c, Mc, h1, h2, h3⟩
/-- a part that is shared tells of other parts the same, or nothing -/
theorem put_sub_pv : ∀ {π : List Nat} {s0 s : Sl}, s0.sub π = some s → ∀ ρ : List Nat, Option.map Sl.pv ((s0.put π (.sh s.pv)).sub ρ) = Option.map Sl.pv (s0.sub ρ) ∨ Option.map Sl.pv ((s0.put π (.sh s.pv)).sub ρ) = none
  | [], s0, s, h, ρ => by
    have e := sub_niln h
    subst e
    rw [put_nil]
    cases ρ with
    | nil => left; rw [h]; rfl
    | cons m ρ => right; rfl
  | n :: π, .nst xs, s, h, ρ => by
    simp only [Sl.sub, Option.bind_eq_some_iff] at h
    obtain ⟨t, e1, e2⟩ := h
    have hl := (List.getElem?_eq_some_iff.mp e1).1
    cases ρ with
    | nil =>
      left
      rw [sub_nil (s := Sl.put _ _ _) rfl, sub_nil rfl]
      simp only [Sl.put, e1, Option.map_some, Sl.pv]
      congr 2
      have key : ∀ {xs : List Sl} {n : Nat} {t t' : Sl}, xs[n]? = some t → t'.pv = t.pv → Sl.pvs (xs.set n t') = Sl.pvs xs := by
        intro xs
        induction xs with
        | nil => intro n t t' e; simp at e
        | cons x xs ih =>
          intro n t t' e q
          cases n with
          | zero => simp at e; subst e; simp [Sl.pvs, q]
          | succ n => simp only [List.set_cons_succ, Sl.pvs]; rw [ih (by simpa using e) q]
      refine key e1 ?_
      rcases put_sub_pv e2 [] with z | z
      · rw [sub_nil (put_nt (root_nt e2)), sub_nil (root_nt e2)] at z
        simpa using z
      · rw [sub_nil (put_nt (root_nt e2))] at z; cases z
    | cons m ρ =>
      simp only [Sl.put, e1, Sl.sub]
      by_cases hm : n = m
      · subst hm
        rw [List.getElem?_set_self hl, e1]
        exact put_sub_pv e2 ρ
      · left; rw [List.getElem?_set_ne hm]
  | n :: π, .ins c ns xs, s, h, ρ => by
    simp only [Sl.sub, Option.bind_eq_some_iff] at h
    obtain ⟨t, e1, e2⟩ := h
    have hl := (List.getElem?_eq_some_iff.mp e1).1
    cases ρ with
    | nil =>
      left
      rw [sub_nil (s := Sl.put _ _ _) rfl, sub_nil rfl]
      simp only [Sl.put, e1, Option.map_some, Sl.pv]
      congr 2
      have key : ∀ {xs : List Sl} {n : Nat} {t t' : Sl}, xs[n]? = some t → t'.pv = t.pv → Sl.pvs (xs.set n t') = Sl.pvs xs := by
        intro xs
        induction xs with
        | nil => intro n t t' e; simp at e
        | cons x xs ih =>
          intro n t t' e q
          cases n with
          | zero => simp at e; subst e; simp [Sl.pvs, q]
          | succ n => simp only [List.set_cons_succ, Sl.pvs]; rw [ih (by simpa using e) q]
      refine key e1 ?_
      rcases put_sub_pv e2 [] with z | z
      · rw [sub_nil (put_nt (root_nt e2)), sub_nil (root_nt e2)] at z
        simpa using z
      · rw [sub_nil (put_nt (root_nt e2))] at z; cases z
    | cons m ρ =>
      simp only [Sl.put, e1, Sl.sub]
      by_cases hm : n = m
      · subst hm
        rw [List.getElem?_set_self hl, e1]
        exact put_sub_pv e2 ρ
      · left; rw [List.getElem?_set_ne hm]
  | n :: π, .sh _, s, h, _ => by simp [Sl.sub] at h
  | n :: π, .own _, s, h, _ => by simp [Sl.sub] at h
  | n :: π, .dct _ _, s, h, _ => by simp [Sl.sub] at h
/-- shared values beside -/
theorem Hyp.shs {H0c Mc : Hp} {E : List (V × Sl)} (h : Hyp K H0c M0 Mc H E) : ∀ {vs : List V} {ps : List PV}, Reps K Mc vs ps → Hyp K H0c M0 Mc H (E ++ vs.zip (ps.map Sl.sh)) := fun {vs ps} r => by
  obtain ⟨As, t, n⟩ := h.ok
  have go : ∀ {vs : List V} {ps : List PV}, Reps K Mc vs ps → TrE K H0c Mc H (vs.zip (ps.map Sl.sh)) [] := by
    intro vs
    induction vs with
    | nil => intro ps r; cases r; exact .nil
    | cons v vs ih =>
      intro ps r
      cases r with
      | cons a b => exact TrE.cons (A := []) (.sh a) (ih b)
  exact ⟨h.sub, h.low, h.new, h.old, h.tab, h.nt0, h.ntM, As ++ [], t.append (go r), by rw [List.append_nil]; exact n⟩

theorem pv_setP : ∀ {env : PEnv} {i : Nat} {π : List Nat} {s : Sl}, slb env (.b i π) = some s → ∀ y, pvb (setP env i π (.sh s.pv)) y = pvb env y ∨ pvb (setP env i π (.sh s.pv)) y = none := by
  intro env i π s hs y
  cases y with
  | t s' => exact .inl rfl
  | b j ρ =>
    obtain ⟨s0, h1, h2⟩ := slb_b hs
    rw [setP_eq h1]
    by_cases hj : i = j
    · subst hj
      have hg : (env.set i (some (s0.put π (.sh s.pv)))).getD i none = some (s0.put π (.sh s.pv)) := getD_set_self (getD_lt h1)
      show Option.map Sl.pv (((env.set i (some (s0.put π (.sh s.pv)))).getD i none).bind fun s => s.sub ρ) = Option.map Sl.pv ((env.getD i none).bind fun s => s.sub ρ) ∨ Option.map Sl.pv (((env.set i (some (s0.put π (.sh s.pv)))).getD i none).bind fun s => s.sub ρ) = none
      rw [hg, h1]
      exact put_sub_pv h2 ρ
    · left
      show Option.map Sl.pv (((env.set i _).getD j none).bind fun s => s.sub ρ) = _
      rw [getD_set_ne hj]
      rfl
noncomputable def ntB : Bw → Bool
  | .t s => !s.isTpl | _ => true
theorem pvb_ntB {env : PEnv} {x : Bw} {p : PV} (e : pvb env x = some p) : ntB x = true := by
  cases x with
  | t s =>
    obtain ⟨s', e1, _⟩ := pvb_sl e
    have := sub_niln e1
    subst this
    show (!s.isTpl) = true
    rw [slb_nt e1]; rfl
  | b i π => rfl
theorem pvbs_ntB : ∀ {env : PEnv} {xs : List Bw} {ps : List PV}, pvbs env xs = some ps → ∀ x ∈ xs, ntB x = true
  | env, [], _, _, x, h => by cases h
  | env, y :: xs, ps, e, x, h => by
    simp only [pvbs, Option.bind_eq_some_iff, Option.map_eq_some_iff] at e
    obtain ⟨p, e1, qs, e2, _⟩ := e
    rcases List.mem_cons.mp h with rfl | h
    · exact pvb_ntB e1
    · exact pvbs_ntB e2 x h
theorem pv_fix : ∀ {env : PEnv} {x : Bw} {r : PV × PEnv}, ntB x = true → Me.fix env x = some r → pvb env x = some r.1 ∧ ∀ y p, pvb r.2 y = some p → pvb env y = some p := by
  intro env x r n e
  cases x with
  | t s =>
    simp only [Me.fix, Option.some.injEq] at e
    subst e
    refine ⟨?_, fun y p h => h⟩
    show (s.sub []).map Sl.pv = _
    rw [sub_nil (by simpa [ntB] using n)]
    rfl
  | b i π =>
    simp only [Me.fix, Option.map_eq_some_iff] at e
    obtain ⟨s, e1, rfl⟩ := e
    refine ⟨by unfold pvb; rw [e1]; rfl, fun y p h => ?_⟩
    rcases pv_setP e1 y with z | z
    · rw [← z]; exact h
    · rw [z] at h; cases h
theorem pvbs_mono : ∀ {ys : List Bw} {env1 env2 : PEnv} {ps : List PV}, (∀ y p, pvb env1 y = some p → pvb env2 y = some p) → pvbs env1 ys = some ps → pvbs env2 ys = some ps := by
  intro ys
  induction ys with
  | nil => intro env1 env2 ps _ e; exact e
  | cons y ys ih =>
    intro env1 env2 ps q e
    simp only [pvbs, Option.bind_eq_some_iff, Option.map_eq_some_iff] at e ⊢
    obtain ⟨p, e1, qs, e2, rfl⟩ := e
    exact ⟨p, q _ _ e1, qs, ih q e2, rfl⟩
theorem fixs_pvbs : ∀ {xs : List Bw} {env : PEnv} {q : List PV × PEnv}, (∀ x ∈ xs, ntB x = true) → Me.fixs env xs = some q → pvbs env xs = some q.1 := by
  intro xs
  induction xs with
  | nil => intro env q _ e; simp only [Me.fixs, Option.some.injEq] at e; subst e; rfl
  | cons x xs ih =>
    intro env q n e
    simp only [Me.fixs, Option.bind_eq_some_iff, Option.map_eq_some_iff] at e
    obtain ⟨r1, e1, r2, e2, rfl⟩ := e
    obtain ⟨h1, h2⟩ := pv_fix (n x List.mem_cons_self) e1
    simp only [pvbs, Option.bind_eq_some_iff, Option.map_eq_some_iff]
    exact ⟨_, h1, _, pvbs_mono h2 (ih (fun y hy => n y (List.mem_cons_of_mem _ hy)) e2), rfl⟩
theorem reps_shown {Mc : Hp} : ∀ {vs : List V} {bs : List Bw} {ps : List PV}, vs.length = bs.length → pvbs env bs = some ps → (∀ v x s, (v, x) ∈ vs.zip bs → slb env x = some s → Rep K Mc v s.pv) → Reps K Mc vs ps := by
  intro vs
  induction vs with
  | nil =>
    intro bs ps hl e _
    cases bs with
    | nil => simp [pvbs] at e; subst e; exact .nil
    | cons => simp at hl
  | cons v vs ih =>
    intro bs ps hl e q
    cases bs with
    | nil => simp at hl
    | cons b bs =>
      simp only [pvbs, Option.bind_eq_some_iff, Option.map_eq_some_iff] at e
      obtain ⟨p, e3, qs, e4, rfl⟩ := e
      obtain ⟨s, e5, rfl⟩ := pvb_sl e3
      exact .cons (q v b s (by simp) e5) (ih (by simpa using hl) e4 fun v' x' s' hm => q v' x' s' (by simp [hm]))
/-! ### the promise of a def -/
noncomputable def selL {α : Type} : List Bool → List α → List α
  | true :: ls, x :: xs => x :: selL ls xs
  | false :: ls, _ :: xs => selL ls xs
  | _, _ => []
theorem selL_none {α : Type} : ∀ {ls : List Bool} {xs : List α}, ls.all (!·) = true → selL ls xs = []
  | [], _, _ => by unfold selL; rfl
  | true :: ls, _, h => by simp at h
  | false :: ls, [], _ => by unfold selL; rfl
  | false :: ls, x :: xs, h => by
    unfold selL
    exact selL_none (by simpa using h)
noncomputable def spF (K : PySem.W.Frag) (ls : List Bool) (F : List Sl → Option (Sl × List Sl)) : Sp := fun vs H Q _ => ∃ H0 M args r, vs.length = args.length ∧ Hyp K H0 M M H (vs.zip args) ∧ F args = some r ∧
  ∀ v H', (∃ M', Hyp K H0 M M' H' ((v, r.1) :: (selL ls vs).zip r.2)) → Q v H'
/-- a call, all that is handed in is shown -/
theorem callN_ok {F : Fns} {g : Nat} {ls : List Bool} {vs : List V} {bs : List Bw} {r' : Bw × PEnv} {Q : VK} {X : XK} (hls : ls.all (!·) = true) (hl : vs.length = bs.length) (sa : SA K H0 M0 σ env (T ++ vs.zip bs) H)
    (e : callN F g env bs = some r') (k : ∀ v H', SA K H0 M0 σ r'.2 (T ++ [(v, r'.1)]) H' → Q v H') : spF K ls (F g) vs H Q X := by
  unfold callN at e
  simp only [Option.bind_eq_some_iff] at e
  obtain ⟨ps, e1, s, e2, e⟩ := e
  have hps : ps.length = bs.length := by
    have : ∀ {bs : List Bw} {ps : List PV}, pvbs env bs = some ps → ps.length = bs.length := by
      intro bs
      induction bs with
      | nil => intro ps e; simp [pvbs] at e; subst e; rfl
      | cons b bs ih =>
        intro ps e
        simp only [pvbs, Option.bind_eq_some_iff, Option.map_eq_some_iff] at e
        obtain ⟨p, _, qs, e2, rfl⟩ := e
        simp [ih e2]
    exact this e1
  split at e
  · rename_i fl
    cases e
    obtain ⟨E, M, sx⟩ := sa
    obtain ⟨H0c, Mc, hc, hN, k2⟩ := lend_core (L := []) (N := vs.zip bs) true (by simpa using sx) (fun e he => by cases he) (.inl rfl) (fun z => by cases z)
    have hr : Reps K Mc vs ps := by
      exact reps_shown hl e1 hN
    refine ⟨H0c, Mc, ps.map .sh, s, by rw [List.length_map, hps, hl], by simpa using hc.shs hr, e2, fun v H' ⟨M', h'⟩ => ?_⟩
    rw [selL_none hls] at h'
    exact k v H' (k2 (T1 := [(v, .t s.1)]) (fun e he => by simp at he; subst he; exact ⟨v, s.1, rfl⟩) h' fun _ => by
      show Sl.flats [s.1] = true
      simp [Sl.flats, fl])
  · simp only [Option.map_eq_some_iff] at e
    obtain ⟨q, e3, rfl⟩ := e
    obtain ⟨hl2, sa2⟩ := SA.fixs (B := []) hl (by simpa using sa) e3
    rw [List.append_nil] at sa2
    obtain ⟨E, M, sx⟩ := sa2
    obtain ⟨H0c, Mc, hc, hN, k2⟩ := lend_core (L := []) (N := vs.zip (q.1.map fun p => Bw.t (.sh p))) false (by simpa using sx) (fun e he => by cases he) (.inl rfl) (fun _ v x s hm hs => by
      obtain ⟨p, _, rfl⟩ := List.mem_map.mp (List.of_mem_zip hm).2
      cases hs
      exact ⟨p, rfl⟩)
    have hq : q.1 = ps := by
      exact Option.some.inj ((fixs_pvbs (pvbs_ntB e1) e3).symm.trans e1)
    have hr : Reps K Mc vs q.1 := by
      have : ∀ {vs : List V} {ps : List PV}, vs.length = ps.length → (∀ v x s, (v, x) ∈ vs.zip (ps.map fun p => Bw.t (.sh p)) → slb q.2 x = some s → Rep K Mc v s.pv) → Reps K Mc vs ps := by
        intro vs
        induction vs with
        | nil => intro ps hl _; cases ps with
          | nil => exact .nil
          | cons => simp at hl
        | cons v vs ih =>
          intro ps hl h
          cases ps with
          | nil => simp at hl
          | cons p ps => exact .cons (h v (.t (.sh p)) (.sh p) (by simp) rfl) (ih (by simpa using hl) fun v' x' s' hm => h v' x' s' (by simp at hm ⊢; exact .inr hm))
      exact this (by rw [hl, hl2]) hN
    refine ⟨H0c, Mc, q.1.map .sh, s, by rw [List.length_map, hl2, hl], by simpa using hc.shs hr, by rw [hq]; exact e2, fun v H' ⟨M', h'⟩ => ?_⟩
    rw [selL_none hls] at h'
    exact k v H' (k2 (T1 := [(v, .t s.1)]) (fun e he => by simp at he; subst he; exact ⟨v, s.1, rfl⟩) h' fun z => by cases z)
/-! ### some is lent -/
noncomputable def rootsL : List Bool → List Bw → List Nat
  | true :: ls, .b i _ :: xs => i :: rootsL ls xs
  | _ :: ls, _ :: xs => rootsL ls xs
  | _, _ => []
theorem rootsL_sub : ∀ {ls : List Bool} {bs : List Bw} {i : Nat}, i ∈ rootsL ls bs → i ∈ rootsB bs
  | [], _, _, h => by unfold rootsL at h; cases h
  | true :: _, [], _, h => by simp [rootsL] at h
  | false :: _, [], _, h => by simp [rootsL] at h
  | true :: ls, .b j π :: bs, i, h => by
    unfold rootsL at h
    unfold rootsB
    rcases List.mem_cons.mp h with rfl | h
    · exact List.mem_cons_self
    · exact List.mem_cons_of_mem _ (rootsL_sub h)
  | true :: ls, .t s :: bs, i, h => by
    have h' : i ∈ rootsL ls bs := h
    exact rootsL_sub (bs := bs) h'
  | false :: ls, .b j π :: bs, i, h => by
    have h' : i ∈ rootsL ls bs := h
    exact List.mem_cons_of_mem _ (rootsL_sub h')
  | false :: ls, .t s :: bs, i, h => by
    have h' : i ∈ rootsL ls bs := h
    exact rootsL_sub (bs := bs) h'
/-- how what is handed in comes to be lent or shown -/
inductive AR (env : PEnv) : List Bool → List V → List Sl → List (V × Bw) → List (V × Bw) → Prop
  | nil : AR env [] [] [] [] []
  | lent {v : V} {s : Sl} {ls : List Bool} {vs : List V} {ss : List Sl} {L N : List (V × Bw)} : AR env ls vs ss L N → AR env (true :: ls) (v :: vs) (s :: ss) ((v, .t s) :: L) N
  | shown {v : V} {x : Bw} {s : Sl} {ls : List Bool} {vs : List V} {ss : List Sl} {L N : List (V × Bw)} : slb env x = some s → AR env ls vs ss L N → AR env (false :: ls) (v :: vs) (.sh s.pv :: ss) L ((v, x) :: N)
theorem AR.mono {env env' : PEnv} {ls : List Bool} {vs : List V} {ss : List Sl} {L N : List (V × Bw)} (h : AR env ls vs ss L N) (k : ∀ v x, (v, x) ∈ N → slb env' x = slb env x) : AR env' ls vs ss L N := by
  induction h with
  | nil => exact .nil
  | lent _ ih => exact .lent (ih k)
  | shown e _ ih => exact .shown ((k _ _ List.mem_cons_self).trans e) (ih fun v x hm => k v x (List.mem_cons_of_mem _ hm))
theorem AR.length {env : PEnv} {ls : List Bool} {vs : List V} {ss : List Sl} {L N : List (V × Bw)} (h : AR env ls vs ss L N) : vs.length = ss.length := by
  induction h with
  | nil => rfl
  | lent _ ih => exact congrArg (· + 1) ih
  | shown _ _ ih => exact congrArg (· + 1) ih
theorem AR.allT {env : PEnv} {ls : List Bool} {vs : List V} {ss : List Sl} {L N : List (V × Bw)} (h : AR env ls vs ss L N) : ∀ e ∈ L, ∃ v s, e = (v, Bw.t s) := by
  induction h with
  | nil => intro e he; cases he
  | lent _ ih =>
    intro e he
    rcases List.mem_cons.mp he with rfl | he
    · exact ⟨_, _, rfl⟩
    · exact ih e he
  | shown _ _ ih => exact ih
theorem AR.tr {H0c Mc : Hp} {env : PEnv} {ls : List Bool} {vs : List V} {ss : List Sl} {L N : List (V × Bw)} (h : AR env ls vs ss L N) : ∀ {AL : List Addr}, TrE K H0c Mc H (tents L) AL → (∀ v x s, (v, x) ∈ N → slb env x = some s → Rep K Mc v s.pv) → TrE K H0c Mc H (vs.zip ss) AL := by
  induction h with
  | nil => intro AL t _; exact t
  | lent _ ih =>
    intro AL t q
    rw [tents_t] at t
    obtain ⟨A, B, rfl, a, b⟩ := t.uncons
    exact TrE.cons a (ih b q)
  | shown e _ ih =>
    intro AL t q
    exact TrE.cons (A := []) (.sh (q _ _ _ List.mem_cons_self e)) (ih t fun v x s hm => q v x s (List.mem_cons_of_mem _ hm))
theorem wipeE_not {env : PEnv} : ∀ {is : List Nat} {i : Nat}, i ∉ is → (wipeE is env).getD i none = env.getD i none
  | [], _, _ => rfl
  | j :: is, i, h => by
    simp only [List.mem_cons, not_or] at h
    unfold wipeE
    rw [getD_set_ne (Ne.symm h.1)]
    exact wipeE_not h.2
theorem slb_wipe {env : PEnv} {is : List Nat} {x : Bw} (h : ∀ i π, x = .b i π → i ∉ is) : slb (wipeE is env) x = slb env x := by
  cases x with
  | t s => rfl
  | b i π =>
    show ((wipeE is env).getD i none).bind _ = _
    rw [wipeE_not (h i π rfl)]
    rfl
theorem roots_mem : ∀ {bs : List Bw} {i : Nat} {π : List Nat}, Bw.b i π ∈ bs → i ∈ rootsB bs
  | [], _, _, h => by cases h
  | .t s :: bs, i, π, h => by
    rcases List.mem_cons.mp h with z | z
    · cases z
    · exact roots_mem (bs := bs) z
  | .b j ρ :: bs, i, π, h => by
    rcases List.mem_cons.mp h with z | z
    · cases z; exact List.mem_cons_self
    · exact List.mem_cons_of_mem _ (roots_mem z)
/-- what is lent leaves its slots -/
theorem split_args : ∀ {ls : List Bool} {bs : List Bw} {vs : List V} {ss : List Sl} {Z : List (V × Bw)}, argS env ls bs = some ss → vs.length = bs.length → (rootsB bs).Nodup → (∀ i ∈ rootsL ls bs, ∀ v π, (v, Bw.b i π) ∉ Z) → SA K H0 M0 σ env (Z ++ vs.zip bs) H →
    ∃ L N, SA K H0 M0 σ (wipeE (rootsL ls bs) env) (Z ++ (L ++ N)) H ∧ AR (wipeE (rootsL ls bs) env) ls vs ss L N ∧ (∀ v x, (v, x) ∈ N → x ∈ bs) ∧ (shB env ls bs = true → ∀ v x s, (v, x) ∈ N → slb (wipeE (rootsL ls bs) env) x = some s → ∃ p, s = .sh p)
  | [], [], vs, ss, Z, e, hl, _, _, sa => by
    have : vs = [] := by simpa using hl
    subst this
    simp only [argS, Option.some.injEq] at e
    subst e
    exact ⟨[], [], by simpa [rootsL, wipeE] using sa, .nil, (fun _ _ h => by cases h), fun _ _ _ _ h => by cases h⟩
  | [], _ :: _, _, _, _, e, _, _, _, _ => by simp [argS] at e
  | true :: _, [], _, _, _, e, _, _, _, _ => by simp [argS] at e
  | false :: _, [], _, _, _, e, _, _, _, _ => by simp [argS] at e
  | true :: ls, .b i (n :: π) :: bs, vs, ss, Z, e, hl, _, _, sa => by simp [argS] at e
  | _ :: _, _ :: _, [], _, _, _, hl, _, _, _ => by simp at hl
  | true :: ls, .b i [] :: bs, v :: vs, ss, Z, e, hl, nd, hz, sa => by
    simp only [argS, Option.bind_eq_some_iff, Option.map_eq_some_iff] at e
    obtain ⟨s, e1, r, e2, rfl⟩ := e
    have nd' : i ∉ rootsB bs ∧ (rootsB bs).Nodup := List.nodup_cons.mp nd
    have hi : i ∉ rootsL ls bs := fun z => nd'.1 (rootsL_sub z)
    obtain ⟨L, N, sa2, ar, hN, hS⟩ := split_args (Z := Z ++ [(v, .b i [])]) e2 (by simpa using hl) nd'.2 (fun j hj w π hm => by
      rcases List.mem_append.mp hm with z | z
      · exact hz j (by unfold rootsL; exact List.mem_cons_of_mem _ hj) w π z
      · simp at z
        obtain ⟨_, rfl, _⟩ := z
        exact hi hj) (by simpa using sa)
    have hmono : ∀ w x, (w, x) ∈ N → slb (wipeE (rootsL (true :: ls) (.b i [] :: bs)) env) x = slb (wipeE (rootsL ls bs) env) x := fun w x hm => by
      cases x with
      | t s' => rfl
      | b j ρ =>
        have ne : i ≠ j := fun z => by subst z; exact nd'.1 (roots_mem (hN _ _ hm))
        show ((wipeE (rootsL (true :: ls) (.b i [] :: bs)) env).getD j none).bind _ = ((wipeE (rootsL ls bs) env).getD j none).bind _
        have : wipeE (rootsL (true :: ls) (.b i [] :: bs)) env = (wipeE (rootsL ls bs) env).set i none := by
          simp [rootsL, wipeE]
        rw [this, getD_set_ne ne]
    refine ⟨(v, .t s) :: L, N, ?_, .lent (ar.mono hmono), (fun w x hm => List.mem_cons_of_mem _ (hN w x hm)), fun z w x s' hm hs => hS (by simpa [shB] using z) w x s' hm (by rw [← hmono w x hm]; exact hs)⟩
    · have sa3 : SA K H0 M0 σ (wipeE (rootsL ls bs) env) (Z ++ (v, .b i []) :: (L ++ N)) H := by simpa using sa2
      have := sa3.take (s := s) (by rw [wipeE_not hi]; exact e1) (fun w π => hz i (by unfold rootsL; exact List.mem_cons_self) w π) (fun w π hm => by
        rcases List.mem_append.mp hm with z | z
        · obtain ⟨_, _, q⟩ := ar.allT _ z
          cases q
        · exact nd'.1 (roots_mem (hN _ _ z)))
      simpa [rootsL, wipeE] using this
  | true :: ls, .t s :: bs, v :: vs, ss, Z, e, hl, nd, hz, sa => by
    simp only [argS, Option.map_eq_some_iff] at e
    obtain ⟨r, e2, rfl⟩ := e
    obtain ⟨L, N, sa2, ar, hN, hS⟩ := split_args (Z := Z ++ [(v, .t s)]) e2 (by simpa using hl) nd (fun j hj w π hm => hz j hj w π (mem_snoc_t hm)) (by simpa using sa)
    exact ⟨(v, .t s) :: L, N, by simpa [rootsL] using sa2, .lent ar, (fun w x hm => List.mem_cons_of_mem _ (hN w x hm)), fun z => hS (by simpa [shB] using z)⟩
  | false :: ls, x :: bs, v :: vs, ss, Z, e, hl, nd, hz, sa => by
    have ea : argS env (false :: ls) (x :: bs) = (slb env x).bind fun s => (argS env ls bs).map fun r => .sh s.pv :: r := by cases x <;> rfl
    have er : rootsL (false :: ls) (x :: bs) = rootsL ls bs := by cases x <;> rfl
    rw [ea] at e
    rw [er] at hz ⊢
    simp only [Option.bind_eq_some_iff, Option.map_eq_some_iff] at e
    obtain ⟨s, e1, r, e2, rfl⟩ := e
    have hx : (rootsB bs).Nodup ∧ ∀ i π, x = .b i π → i ∉ rootsB bs := by
      cases x with
      | t s => exact ⟨nd, fun _ _ z => by cases z⟩
      | b j ρ =>
        have nd' : j ∉ rootsB bs ∧ (rootsB bs).Nodup := List.nodup_cons.mp nd
        exact ⟨nd'.2, fun i π z => by cases z; exact nd'.1⟩
    obtain ⟨L, N, sa2, ar, hN, hS⟩ := split_args (Z := Z ++ [(v, x)]) e2 (by simpa using hl) hx.1 (fun j hj w π hm => by
      rcases List.mem_append.mp hm with z | z
      · exact hz j hj w π z
      · simp at z
        exact hx.2 j π z.2.symm (rootsL_sub hj)) (by simpa using sa)
    have ex : slb (wipeE (rootsL ls bs) env) x = some s := by rw [slb_wipe fun i π z => fun q => hx.2 i π z (rootsL_sub q)]; exact e1
    refine ⟨L, (v, x) :: N, sa2.perm ?_, .shown ex ar, fun w y hm => ?_, fun z w y s' hm hs => ?_⟩
    · rw [List.append_assoc]
      refine List.Perm.append_left _ ?_
      show ((v, x) :: (L ++ N)).Perm (L ++ (v, x) :: N)
      exact List.perm_middle.symm
    · rcases List.mem_cons.mp hm with z | z
      · cases z; exact List.mem_cons_self
      · exact List.mem_cons_of_mem _ (hN w y z)
    · have z' : isSh (slb env x) = true ∧ shB env ls bs = true := by
        cases x <;> simpa [shB] using z
      rcases List.mem_cons.mp hm with q | q
      · cases q
        rw [ex] at hs
        cases hs
        have := z'.1
        rw [e1] at this
        cases s with
        | sh p => exact ⟨p, rfl⟩
        | _ => cases this
      · exact hS z'.2 w y s' q hs
theorem wipe_set {env : PEnv} {i : Nat} {x : Option Sl} : ∀ {is : List Nat}, i ∉ is → (wipeE is env).set i x = wipeE is (env.set i x)
  | [], _ => rfl
  | j :: is, h => by
    simp only [List.mem_cons, not_or] at h
    unfold wipeE
    rw [List.set_comm _ _ (Ne.symm h.1), wipe_set h.2]
theorem setV_same {σ : L2.St} {i : Nat} {x : Option V} (h : σ[i]? = some x) : σ.set i x = σ := set_same h
theorem putB_some : ∀ {ls : List Bool} {bs : List Bw} {ss : List Sl} {env e' : PEnv}, putB ls bs ss env = some e' → ∀ i, (env.getD i none).isSome → (e'.getD i none).isSome
  | [], [], [], env, e', e, i, h => by simp only [putB, Option.some.injEq] at e; subst e; exact h
  | [], [], _ :: _, env, e', e, i, h => by simp [putB] at e
  | [], _ :: _, _, env, e', e, i, h => by simp [putB] at e
  | true :: ls, [], _, env, e', e, i, h => by simp [putB] at e
  | false :: ls, [], _, env, e', e, i, h => by simp [putB] at e
  | true :: ls, .b j [] :: bs, s :: ss, env, e', e, i, h => putB_some (ls := ls) (bs := bs) (ss := ss) (by simpa [putB] using e) i (getD_set_some h)
  | true :: ls, .b j (_ :: _) :: bs, _, env, e', e, i, h => by simp [putB] at e
  | true :: ls, .b j [] :: bs, [], env, e', e, i, h => by simp [putB] at e
  | true :: ls, .t _ :: bs, [], env, e', e, i, h => by simp [putB] at e
  | true :: ls, .t _ :: bs, s :: ss, env, e', e, i, h => putB_some (ls := ls) (bs := bs) (ss := ss) (by simpa [putB] using e) i h
  | false :: ls, x :: bs, ss, env, e', e, i, h => putB_some (ls := ls) (bs := bs) (ss := ss) (by cases x <;> simpa [putB] using e) i h
/-- what comes back goes to its place -/
theorem putAll : ∀ {ls : List Bool} {bs : List Bw} {vs : List V} {bk : List Sl} {env e' : PEnv} {Z : List (V × Bw)}, putB ls bs bk env = some e' → vs.length = bs.length → (rootsB bs).Nodup → (∀ i ∈ rootsL ls bs, ∀ v π, (v, Bw.b i π) ∉ Z) →
    (∀ v i, (v, Bw.b i []) ∈ vs.zip bs → σ[i]? = some (some v)) → SA K H0 M0 σ (wipeE (rootsL ls bs) env) (Z ++ (selL ls vs).zip (bk.map Bw.t)) H → SA K H0 M0 σ e' Z H
  | [], [], vs, [], env, e', Z, e, hl, _, _, _, sa => by
    simp only [putB, Option.some.injEq] at e
    subst e
    simpa [rootsL, wipeE] using sa.left
  | [], [], _, _ :: _, _, _, _, e, _, _, _, _, _ => by simp [putB] at e
  | [], _ :: _, _, _, _, _, _, e, _, _, _, _, _ => by simp [putB] at e
  | true :: _, [], _, _, _, _, _, e, _, _, _, _, _ => by simp [putB] at e
  | false :: _, [], _, _, _, _, _, e, _, _, _, _, _ => by simp [putB] at e
  | true :: _, .b _ (_ :: _) :: _, _, _, _, _, _, e, _, _, _, _, _ => by simp [putB] at e
  | true :: _, .b _ [] :: _, _, [], _, _, _, e, _, _, _, _, _ => by simp [putB] at e
  | true :: _, .t _ :: _, _, [], _, _, _, e, _, _, _, _, _ => by simp [putB] at e
  | _ :: _, _ :: _, [], _, _, _, _, _, hl, _, _, _, _ => by simp at hl
  | true :: ls, .b i [] :: bs, v :: vs, s :: ss, env, e', Z, e, hl, nd, hz, hv, sa => by
    have nd' : i ∉ rootsB bs ∧ (rootsB bs).Nodup := List.nodup_cons.mp nd
    have hi : i ∉ rootsL ls bs := fun z => nd'.1 (rootsL_sub z)
    refine putAll (ls := ls) (bs := bs) (vs := vs) (bk := ss) (env := env.set i (some s)) (by simpa [putB] using e) (by simpa using hl) nd'.2 (fun j hj => hz j (by unfold rootsL; exact List.mem_cons_of_mem _ hj)) (fun w j hm => hv w j (by simp [hm])) ?_
    have sa1 : SA K H0 M0 σ ((wipeE (rootsL ls bs) env).set i none) (Z ++ ((v, .t s) :: (selL ls vs).zip (ss.map Bw.t))) H := by simpa [rootsL, wipeE, selL] using sa
    have sa2 : SA K H0 M0 σ ((wipeE (rootsL ls bs) env).set i none) (Z ++ (selL ls vs).zip (ss.map Bw.t) ++ [(v, .t s)]) H := by
      refine sa1.perm ?_
      rw [List.append_assoc]
      exact List.Perm.append_left _ (List.perm_append_comm (l₁ := [(v, Bw.t s)]))
    have hn : ∀ w π, (w, Bw.b i π) ∉ Z ++ (selL ls vs).zip (ss.map Bw.t) := fun w π hm => by
      rcases List.mem_append.mp hm with z | z
      · exact hz i (by unfold rootsL; exact List.mem_cons_self) w π z
      · obtain ⟨_, _, q⟩ := allT_zip _ _ _ z
        cases q
    have sv := hv v i (by simp)
    have hlen : i < ((wipeE (rootsL ls bs) env).set i none).length := by
      have := sa2.length
      have h2 := (List.getElem?_eq_some_iff.mp sv).1
      omega
    have := sa2.set hlen hn
    rw [setV_same sv, List.set_set, wipe_set hi] at this
    exact this
  | true :: ls, .t t :: bs, v :: vs, s :: ss, env, e', Z, e, hl, nd, hz, hv, sa => by
    refine putAll (ls := ls) (bs := bs) (vs := vs) (bk := ss) (by simpa [putB] using e) (by simpa using hl) nd hz (fun w j hm => hv w j (by simp [hm])) ?_
    have sa1 : SA K H0 M0 σ (wipeE (rootsL ls bs) env) (Z ++ ((v, .t s) :: (selL ls vs).zip (ss.map Bw.t))) H := by simpa [rootsL, selL] using sa
    exact sa1.sub (List.Sublist.append_left (List.sublist_cons_self _ _) Z)
  | false :: ls, x :: bs, v :: vs, ss, env, e', Z, e, hl, nd, hz, hv, sa => by
    have er : rootsL (false :: ls) (x :: bs) = rootsL ls bs := by cases x <;> rfl
    rw [er] at hz sa
    have nd' : (rootsB bs).Nodup := by
      cases x with
      | t s => exact nd
      | b j ρ => exact (List.nodup_cons.mp nd).2
    exact putAll (ls := ls) (bs := bs) (vs := vs) (bk := ss) (by cases x <;> simpa [putB] using e) (by simpa using hl) nd' hz (fun w j hm => hv w j (by simp [hm])) (by simpa [selL] using sa)
theorem pushBs : ∀ {T2 : List (V × Bw)} {T : List (V × Bw)}, SA K H0 M0 σ env T H → (∀ e ∈ T2, ∃ v i, e = (v, Bw.b i []) ∧ σ[i]? = some (some v) ∧ (env.getD i none).isSome) → SA K H0 M0 σ env (T ++ T2) H
  | [], T, h, _ => by simpa using h
  | e :: T2, T, h, k => by
    obtain ⟨v, i, rfl, h1, h2⟩ := k e List.mem_cons_self
    obtain ⟨E, M, sx⟩ := h
    have := pushBs (T2 := T2) (sx.pushB h1 .nil h2) fun e he => k e (List.mem_cons_of_mem _ he)
    simpa using this
theorem filter_perm {α : Type} (p : α → Bool) : ∀ l : List α, (l.filter (fun x => !p x) ++ l.filter p).Perm l
  | [] => .refl _
  | x :: xs => by
    have ih := filter_perm p xs
    cases h : p x with
    | false => simpa [List.filter_cons, h] using ih.cons x
    | true =>
      simp only [List.filter_cons, h, Bool.not_true, Bool.false_eq_true, if_false, if_true]
      exact List.perm_middle.trans (ih.cons x)
/-- a call, some of what is handed in is lent -/
theorem callL_ex {F : Fns} {g : Nat} {ls : List Bool} {vs : List V} {bs : List Bw} {r' : Bw × PEnv} (hl : vs.length = bs.length) (ro : Roots T) (sa : SA K H0 M0 σ env (T ++ vs.zip bs) H)
    (e : callL F ls g env bs = some r') : ∃ H0c Mc ss q e', vs.length = ss.length ∧ Hyp K H0c Mc Mc H (vs.zip ss) ∧ F g ss = some q ∧ r' = (.t q.1, e') ∧ ∀ v H', (∃ M', Hyp K H0c Mc M' H' ((v, q.1) :: (selL ls vs).zip q.2)) → SA K H0 M0 σ e' (T ++ [(v, .t q.1)]) H' := by
  unfold callL at e
  split at e
  · rename_i nd
    simp only [Option.bind_eq_some_iff] at e
    obtain ⟨ss, e1, q, e2, e⟩ := e
    split at e
    · rename_i hf
      simp only [Option.map_eq_some_iff] at e
      obtain ⟨e', e3, rfl⟩ := e
      generalize hp : (fun e : V × Bw => match e with | (_, .b i _) => (rootsL ls bs).contains i | _ => false : V × Bw → Bool) = p
      have sa1 : SA K H0 M0 σ env (T.filter (fun x => !p x) ++ vs.zip bs) H := sa.sub (List.Sublist.append_right List.filter_sublist _)
      have hz : ∀ i ∈ rootsL ls bs, ∀ v π, (v, Bw.b i π) ∉ T.filter (fun x => !p x) := fun i hi v π hm => by
        have := (List.mem_filter.mp hm).2
        rw [← hp] at this
        simp [hi] at this
      obtain ⟨L, N, sa2, ar, hN, hS⟩ := split_args e1 hl nd hz sa1
      obtain ⟨E, M, sx⟩ := id sa2
      obtain ⟨Es, Ms, sxs⟩ := id sa
      have ro1 : Roots (T.filter (fun x => !p x)) := fun v i π hm => ro v i π (List.mem_filter.mp hm).1
      have shN : (q.1.flat && Sl.flats q.2) = false → ∀ v x s, (v, x) ∈ N → slb (wipeE (rootsL ls bs) env) x = some s → ∃ p, s = .sh p := by
        intro z
        rw [z, Bool.false_or] at hf
        exact hS hf
      obtain ⟨H0c, Mc, hc, hR, k2⟩ := lend_core (q.1.flat && Sl.flats q.2) sx ar.allT (.inr ro1) shN
      obtain ⟨AL, tAL, nAL⟩ := hc.ok
      refine ⟨H0c, Mc, ss, q, e', ar.length, ⟨hc.sub, hc.low, hc.new, hc.old, hc.tab, hc.nt0, hc.ntM, AL, ar.tr tAL hR, nAL⟩, e2, rfl, fun v H' ⟨M', h'⟩ => ?_⟩
      have sa3 := k2 (T1 := (v, .t q.1) :: (selL ls vs).zip (q.2.map Bw.t)) (fun e he => by
        rcases List.mem_cons.mp he with rfl | he
        · exact ⟨_, _, rfl⟩
        · exact allT_zip _ _ _ he) (by rw [tents_t, tents_map_t]; exact h') (fun z => by
        rw [tents_t, tents_map_t, List.map_cons]
        simp only [Bool.and_eq_true] at z
        have fz : ∀ {a : List V} {b : List Sl}, Sl.flats b = true → Sl.flats ((a.zip b).map (·.2)) = true := by
          intro a
          induction a with
          | nil => intro b _; simp [Sl.flats]
          | cons x a ih =>
            intro b hb
            cases b with
            | nil => simp [Sl.flats]
            | cons y b =>
              simp only [Sl.flats, Bool.and_eq_true] at hb
              simp only [List.zip_cons_cons, List.map_cons, Sl.flats, Bool.and_eq_true]
              exact ⟨hb.1, ih hb.2⟩
        simp only [Sl.flats, Bool.and_eq_true]
        exact ⟨z.1, fz z.2⟩)
      have sa4 := putAll (Z := T.filter (fun x => !p x) ++ [(v, .t q.1)]) e3 hl nd (fun i hi w π hm => hz i hi w π (mem_snoc_t hm)) (fun w i hm => by
        obtain ⟨u0, u1, u2, _⟩ := sxs.bor w i [] (List.mem_append_right _ hm)
        cases u2
        exact u1) (by simpa using sa3)
      have sa5 := pushBs (T2 := T.filter p) sa4 (fun e he => by
        obtain ⟨h1, h2⟩ := List.mem_filter.mp he
        obtain ⟨w, x⟩ := e
        cases x with
        | t s => rw [← hp] at h2; cases h2
        | b i π =>
          obtain ⟨u0, u1, u2, u3⟩ := sxs.bor w i π (List.mem_append_left _ h1)
          cases ro w i π h1
          cases u2
          exact ⟨_, i, rfl, u1, putB_some e3 i u3⟩)
      refine sa5.perm ?_
      rw [List.append_assoc]
      refine (List.Perm.append_left _ (List.perm_append_comm (l₁ := [(v, Bw.t q.1)]))).trans ?_
      rw [← List.append_assoc]
      exact List.Perm.append_right _ (filter_perm p T)
    · cases e
  · cases e
theorem callL_ok {F : Fns} {g : Nat} {ls : List Bool} {vs : List V} {bs : List Bw} {r' : Bw × PEnv} {Q : VK} {X : XK} (hl : vs.length = bs.length) (ro : Roots T) (sa : SA K H0 M0 σ env (T ++ vs.zip bs) H)
    (e : callL F ls g env bs = some r') (k : ∀ v H', SA K H0 M0 σ r'.2 (T ++ [(v, r'.1)]) H' → Q v H') : spF K ls (F g) vs H Q X := by
  obtain ⟨H0c, Mc, ss, q, e', h1, h2, h3, rfl, h4⟩ := callL_ex hl ro sa e
  exact ⟨H0c, Mc, ss, q, h1, h2, h3, fun v H' h => k v H' (h4 v H' h)⟩
end
end Me
/-! Me8: calls, built-ins, instances, dicts. -/
namespace Me
open PySem PySem.Spec PyProof.Rows L2
open NdefX (TabsN NTab TabN)
open LamX (CodeO TabB ExtN)
variable [Reg]

section
variable {X : Cx} {e a b o : Expr} {es : List Expr} {pos p apos : Pos} {x m : Str} {f g : PEnv → Option (Bw × PEnv)} {fs : PEnv → Option (List Bw × PEnv)} {cf cg : Bool}
theorem se_blt {n : String} (hu : X.A.units + 65 < cLine) (hc : X.calm = true) (hg : Gl X (n : Str)) (hm : X.mg (n : Str) = none) (hf : (bTypes ++ bFuns).contains n = true) (ha : PA X (e :: es) (tAs X.K cg fs)) (hn : (n : Str) ≠ "__name__") (hdb : ((n : Str) == ("__debug__" : Str)) = false)
    (he : starEach (e :: es) X.env = (false, eval e X.env) :: starEach es X.env) (hpl : (backTo pos (starEach es X.env)).any (·.1) = false) :
    PE X (.Call (.Name (n : Str) p) (e :: es) [] pos) (tE X.K cg fun env => (fs env).bind fun r => if (n == "len" || stBs r.2 r.1) = true then (pvbs r.2 r.1).bind fun ps => (blt2 n ps).map fun s => (.t s, r.2) else none) := by
  have hr : CallR X (bv n) (fun xs H Q => ∀ (pins : List (Addr × Obj)) (s : Shared) (σ : L2.St) (us : List Value), Inv X pins σ H s → Vals xs us → wpAny (model X.prog X.w) X.A (call (bv n) us) (EP X pins σ Q) X.xe s) :=
    fun pins s σ H xs us Q I r q => q pins s σ us I r
  have main : ∀ σ H Q, tE X.K cg (fun env => (fs env).bind fun r => if (n == "len" || stBs r.2 r.1) = true then (pvbs r.2 r.1).bind fun ps => (blt2 n ps).map fun s => (.t s, r.2) else none) σ H Q →
      tCB (fun xs H Q => ∀ (pins : List (Addr × Obj)) (s : Shared) (σ : L2.St) (us : List Value), Inv X pins σ H s → Vals xs us → wpAny (model X.prog X.w) X.A (call (bv n) us) (EP X pins σ Q) X.xe s) (tAs X.K cg fs) σ H Q := fun σ H Q q => by
    obtain ⟨H0, M0, env, T, r', e, sa, ro, k⟩ := q
    obtain ⟨r1, e1, e⟩ := ob e
    obtain ⟨hst, e⟩ := og e
    obtain ⟨ps, e2, e⟩ := ob e
    obtain ⟨s, e3, rfl⟩ := om e
    refine ⟨H0, M0, env, T, r1, e1, sa, ro, fun vs H1 hl sa1 => ?_⟩
    intro pins s' σ' us I r
    obtain ⟨E, M, sx⟩ := id sa1
    refine op_blt (st := stBs r1.2 r1.1) hu hc I r sx (sx.gets hl (fun e he => List.mem_append_right _ he) e2 id) ?_ e3 fun v H' sa' => k v H' sa'.mid
    rcases Bool.or_eq_true_iff.mp hst with z | z
    · exact .inl (by simpa using z)
    · exact .inr z
  by_cases hT : bTypes.contains n = true
  · have e1 : bv n = .type n := if_pos hT
    rw [e1] at hr main
    exact PE_imp (pe_callTy hr hg hm (by rw [← e1]; exact boot_ok hf) ha hn hdb he hpl) main
  · have e1 : bv n = .builtin n := if_neg hT
    rw [e1] at hr main
    exact PE_imp (pe_callB hr hg hm (by rw [← e1]; exact boot_ok hf) ha hn hdb he hpl) main
theorem se_isi {ty : String} {p2 p3 : Pos} (hg : Gl X "isinstance") (hm : X.mg "isinstance" = none) (hgt : Gl X (ty : Str)) (hmt : X.mg (ty : Str) = none) (hbt : bootBuiltins (ty : Str) = some (.type ty)) (ha : PE X a (tE X.K cf f)) (hn : (ty : Str) ≠ "__name__") (hdb : ((ty : Str) == ("__debug__" : Str)) = false)
    (he : starEach [a, .Name (ty : Str) p2] X.env = (false, eval a X.env) :: starEach [.Name (ty : Str) p2] X.env) :
    PE X (.Call (.Name "isinstance" p) [a, .Name (ty : Str) p2] [] pos) (tE X.K cf fun env => (f env).bind fun r => (pvb r.2 r.1).bind fun x => (isi2 x ty).map fun z => (.t (.sh (.bl z)), r.2)) := by
  refine PE_imp (pe_callB call_isi hg hm (by decide +kernel) (pa_cons ha (pa_cons (pe_bltn (v := .ty ty) hgt hmt hbt rfl hn hdb) pa_nil rfl) he) (by decide +kernel) (by decide +kernel) he rfl) fun σ H Q q => ?_
  obtain ⟨H0, M0, env, T, r', e, sa, ro, k⟩ := q
  obtain ⟨r1, e1, e⟩ := ob e
  obtain ⟨ps, e2, e⟩ := ob e
  obtain ⟨z, e3, rfl⟩ := om e
  refine ⟨H0, M0, env, T, r1, e1, sa, ro, fun v H1 sa1 => ?_⟩
  obtain ⟨E, M, sx⟩ := id sa1
  obtain ⟨s1, g1, rfl⟩ := pvb_sl e2
  obtain ⟨T', h1, h2⟩ := ty_of sx (sx.get (v := v) (by simp) g1) e3
  refine ⟨v, .ty ty, .type T', .type ty, z, rfl, .ty ty, h1, kit_ty h2, k _ _ ?_⟩
  obtain ⟨E', M', sx'⟩ := sa1.left
  exact sx'.push (.bl _)
/-- a method of a text with one argument -/
theorem mt_one {m i : String} {r : V → List V → Hp → VK → Prop} (slot : Slot "str" (m : Str) i) (ty : typeOf (.builtin i) = pure (.type "method_descriptor")) (rule : MtR X i r) (ho : PE X a (tE X.K cf f)) (he : PE X b (tE X.K cg g))
    (hs : starEach [b] X.env = [(false, eval b X.env)]) (hbase : attributeBase a (m : Str) X.env (eval a X.env) = eval a X.env) (hline : (apos.endLine == pos.line) = true)
    (hr : ∀ (t : Str) (y : V) (s2 z : Sl) (H H0 M0 M : Hp) (σ : L2.St) (env : PEnv) (T : List (V × Bw)) (E : List (V × Sl)) (Q : VK), SAx X.K H0 M0 σ env T H E M → SlOk X.K H0 M H y s2 → meth2 m (.str t) s2.pv = some z →
      (∀ v H', SA X.K H0 M0 σ env (T ++ [(v, .t z)]) H' → Q v H') → r (.str t) [y] H Q)
    (hx : ∀ p q z, meth2 m p q = some z → ∃ a, p = .str a) :
    PE X (.Call (.Attribute a (m : Str) apos) [b] [] pos) (tE X.K (cf && cg) fun env => (f env).bind fun r => (pvb r.2 r.1).bind fun x => if gd r.1 cg = true then (g r.2).bind fun q => (pvb q.2 q.1).bind fun y => (meth2 m x y).map fun z => (.t z, q.2) else none) := by
  refine PE_imp (pe_m1 slot ty rule ho he hs hbase hline) fun σ H Q q => ?_
  obtain ⟨H0, M0, env, T, r', e, sa, ro, k⟩ := q
  obtain ⟨r1, e1, e⟩ := ob e
  obtain ⟨p1, e3, e⟩ := ob e
  obtain ⟨hg, e⟩ := og e
  obtain ⟨r2, e2, e⟩ := ob e
  obtain ⟨p2, e4, e⟩ := ob e
  obtain ⟨z, e5, rfl⟩ := om e
  refine ⟨H0, M0, env, T, r1, e1, sa, ro_l ro, fun v H1 sa1 => ?_⟩
  obtain ⟨E, M, sx⟩ := id sa1
  obtain ⟨s1, g1, g2⟩ := pvb_sl e3
  obtain ⟨t, rfl⟩ := hx _ _ _ e5
  have ev := (sx.get (v := v) (by simp) g1).str g2
  subst ev
  refine ⟨⟨t, rfl⟩, H0, M0, r1.2, _, r2, e2, sa1, ro_snoc (ro_r ro) hg, fun w H2 sa2 => ?_⟩
  obtain ⟨E', M', sx'⟩ := id sa2
  obtain ⟨s2, g4, rfl⟩ := pvb_sl e4
  exact hr t w s2 z H2 H0 M0 M' σ r2.2 _ E' Q sx' (sx'.get mem2.2 g4) e5 fun v' H' sa' => k v' H' (SA.mid (T := T) (A := [(.str t, r1.1)] ++ [(w, r2.1)]) (B := [(v', .t z)]) (by simpa using sa'))
theorem Reps.strsOf {K : PySem.W.Frag} {M : Hp} {vs : List V} {ps : List PV} {ns : List Str} (r : Reps K M vs ps) (e : asStrs ps = some ns) : vs = ns.map V.str := by
  rw [asStrs_ok e] at r
  exact r.strs
theorem se_meth {m : String} (hmm : m = "join" ∨ m = "find" ∨ m = "split") (ho : PE X a (tE X.K cf f)) (he : PE X b (tE X.K cg g))
    (hs : starEach [b] X.env = [(false, eval b X.env)]) (hbase : attributeBase a (m : Str) X.env (eval a X.env) = eval a X.env) (hline : (apos.endLine == pos.line) = true) :
    PE X (.Call (.Attribute a (m : Str) apos) [b] [] pos) (tE X.K (cf && cg) fun env => (f env).bind fun r => (pvb r.2 r.1).bind fun x => if gd r.1 cg = true then (g r.2).bind fun q => (pvb q.2 q.1).bind fun y => (meth2 m x y).map fun z => (.t z, q.2) else none) := by
  have hx : ∀ p q z, meth2 m p q = some z → ∃ a, p = .str a := fun p q z e => by
    unfold meth2 at e
    split at e <;> first | exact ⟨_, rfl⟩ | cases e
  rcases hmm with rfl | rfl | rfl
  · refine mt_one PySem.F.slot_str_join PySem.F.type_str_join mt_join ho he hs hbase hline ?_ hx
    intro t y s2 z H H0 M0 M σ env T E Q sx hy e k
    generalize hp : s2.pv = p2 at e
    cases p2 with
    | lst xs =>
      have e' : ((asStrs xs).bind fun ys => if (ys.map (·.length)).sum + ys.length * t.length ≤ lim then some (Sl.sh (.str (Txt.join t ys))) else none) = some z := e
      obtain ⟨ys, e1, e⟩ := ob e'
      split at e
      · rename_i hl
        cases e
        obtain ⟨c, vs, rfl, h1, r1, _⟩ := hy.lst hp sx.same
        rw [r1.strsOf e1] at h1
        exact ⟨t, c, ys, rfl, rfl, .inl h1, hl, k _ _ (sx.push (.str _))⟩
      · cases e
    | _ => exact absurd (show (none : Option Sl) = some z from e) (by simp)
  · refine mt_one PySem.F.slot_str_find PySem.F.type_str_find mt_find ho he hs hbase hline ?_ hx
    intro t y s2 z H H0 M0 M σ env T E Q sx hy e k
    generalize hp : s2.pv = p2 at e
    cases p2 with
    | str u =>
      have e' : some (Sl.sh (.int (Txt.find t u))) = some z := e
      cases e'
      exact ⟨t, _, rfl, by rw [hy.str hp], k _ _ (sx.push (.int _))⟩
    | _ => exact absurd (show (none : Option Sl) = some z from e) (by simp)
  · refine mt_one PySem.F.slot_str_split PySem.F.type_str_split mt_split ho he hs hbase hline ?_ hx
    intro t y s2 z H H0 M0 M σ env T E Q sx hy e k
    generalize hp : s2.pv = p2 at e
    cases p2 with
    | str u =>
      have e' : (if u.length ≠ 0 ∧ t.length + 2 ≤ lim then some (Sl.own ((Txt.split t u).map PV.str)) else none) = some z := e
      split at e'
      · rename_i hl
        cases e'
        refine ⟨t, u, rfl, by rw [hy.str hp], by simpa using hl.1, le_line hl.2, fun p hp => k _ _ (sx.lst hp (Reps.of_strs _))⟩
      · cases e'
    | _ => exact absurd (show (none : Option Sl) = some z from e) (by simp)

/-! ### defs of the text -/
structure FnAd (X : Cx) (k : Nat) (fa : Addr) (ls : List Bool) (F : List Sl → Option (Sl × List Sl)) : Prop where
  ex : ∃ (fd : FuncData) (ps : List Str), FnOk X.prog X.w X.K X.mg X.base CX0 k fa fd ps (spF X.K ls F) ∧ PySem.W.keepIn X.K (.ref fa) = true ∧ Binds X.K fd ps []
structure FnAt (X : Cx) (k : Nat) (nm : Str) (ls : List Bool) (F : List Sl → Option (Sl × List Sl)) : Prop where
  ex : ∃ fa : Addr, FnAd X k fa ls F ∧ X.mg nm = some (.ref fa)
theorem se_call {F : Fns} {g k : Nat} {ls : List Bool} (hls : ls.all (!·) = true) (A : FnAt X k x ls (F g)) (hr : Room k X.A) (hg : Gl X x) (ha : PA X (e :: es) (tAs X.K cg fs)) (hdb : (x == ("__debug__" : Str)) = false)
    (he : starEach (e :: es) X.env = (false, eval e X.env) :: starEach es X.env) (hpl : (backTo pos (starEach es X.env)).any (·.1) = false) :
    PE X (.Call (.Name x p) (e :: es) [] pos) (tE X.K cg fun env => (fs env).bind fun r => callN F g r.2 r.1) := by
  obtain ⟨fa, ⟨fd, ps, G, hk, hb⟩, hm⟩ := A.ex
  refine PE_imp (pe_call G hr hg hm hk hb .nil pass0 ha hdb he hpl) fun σ H Q q => ?_
  obtain ⟨H0, M0, env, T, r', e, sa, ro, k⟩ := q
  obtain ⟨r1, e1, e⟩ := ob e
  refine ⟨H0, M0, env, T, r1, e1, sa, ro, fun vs H1 hl sa1 => ?_⟩
  show spF X.K ls (F g) (vs ++ []) H1 Q _
  rw [List.append_nil]
  exact callN_ok hls hl sa1 e k
/-! ### instances -/
theorem PE_ex {ι : Type} {e : Expr} {t : ι → TE} (h : ∀ i, PE X e (t i)) : PE X e (fun σ H Q => ∃ i, t i σ H Q) := ⟨fun pins s σ H Q I ⟨i, q⟩ => (h i).run pins s σ H Q I q⟩
theorem posS_get : ∀ {ns : List Str} {f : Str} {n : Nat}, posS ns f = some n → ns[n]? = some f
  | [], _, _, h => by simp [posS] at h
  | a :: ns, f, n, h => by
    unfold posS at h
    split at h
    · rename_i q; cases h; subst q; rfl
    · obtain ⟨m, h1, rfl⟩ := Option.map_eq_some_iff.mp h
      simpa using posS_get h1
theorem posS_lookup : ∀ {fs : List (Str × V)} {f : Str} {n : Nat} {v : V}, posS (fs.map (·.1)) f = some n → (fs.map (·.2))[n]? = some v → fs.lookup f = some v
  | [], _, _, _, h, _ => by simp [posS] at h
  | (a, w) :: fs, f, n, v, h, g => by
    simp only [List.map_cons, posS] at h
    split at h
    · rename_i q; cases h; subst q
      simp at g; subst g
      simp [List.lookup]
    · rename_i q
      obtain ⟨m, h1, rfl⟩ := Option.map_eq_some_iff.mp h
      have e : (f == a) = false := by simpa using Ne.symm q
      simp only [List.lookup, e]
      exact posS_lookup h1 (by simpa using g)
theorem posS_none : ∀ {fs : List (Str × V)} {f : Str}, posS (fs.map (·.1)) f = none → fs.lookup f = none
  | [], _, _ => rfl
  | (a, w) :: fs, f, h => by
    simp only [List.map_cons, posS] at h
    split at h
    · cases h
    · rename_i q
      have e : (f == a) = false := by simpa using Ne.symm q
      simp only [List.lookup, e]
      exact posS_none (Option.map_eq_none_iff.mp h)
/-- what an instance is -/
theorem SlOk.inst {K : PySem.W.Frag} {H0 M H : Hp} {v : V} {s : Sl} {c : Str} {ns : List Str} (h : SlOk K H0 M H v s) (sm : Same M H) (e : (∃ xs, s = .sh (.obj c ns xs)) ∨ ∃ xs, s = .ins c ns xs) :
    ∃ a dx C fs, v = .ref a ∧ H a = some (.ins C dx fs) ∧ ClsAt K c C ∧ fs.map (·.1) = ns := by
  obtain ⟨⟨A, t⟩, _⟩ := h
  rcases e with ⟨xs, rfl⟩ | ⟨xs, rfl⟩
  · cases t with
    | sh r =>
      cases r with
      | obj h1 h2 h3 h4 h5 => exact ⟨_, _, _, _, rfl, sm _ _ h1, h3, h4⟩
  · cases t with
    | ins _ _ _ _ h1 h2 h3 h4 h5 => exact ⟨_, _, _, _, rfl, h1, h3, h4⟩
theorem clsB_some {env : PEnv} {x : Bw} {m c : Str} (h : clsB env x m = some c) : ∃ s ns, slb env x = some s ∧ ((∃ xs, s = .sh (.obj c ns xs)) ∨ ∃ xs, s = .ins c ns xs) ∧ posS ns m = none := by
  unfold clsB at h
  split at h
  · rename_i e
    split at h
    · rename_i q; cases h; exact ⟨_, _, e, .inl ⟨_, rfl⟩, q⟩
    · cases h
  · rename_i e
    split at h
    · rename_i q; cases h; exact ⟨_, _, e, .inr ⟨_, rfl⟩, q⟩
    · cases h
  · cases h
/-- o.f -/
theorem se_att {n : Str} {cs : List Str} (hcs : ∀ c, cs.contains c = true → ∃ C, ClsAt X.K c C ∧ Cls X.K C ∧ NoAttr X.K C n) (ho : PE X o (tE X.K cf f)) (hbase : attributeBase o n X.env (eval o X.env) = eval o X.env) :
    PE X (.Attribute o n pos) (tE X.K cf fun env => (f env).bind fun r => (attB r.2 r.1 n cs).map fun x => (x, r.2)) := by
  refine PE_imp (pe_fld ho hbase) fun σ H Q q => ?_
  obtain ⟨H0, M0, env, T, r', e, sa, ro, k⟩ := q
  obtain ⟨r1, e1, e⟩ := ob e
  obtain ⟨y, e2, rfl⟩ := om e
  refine ⟨H0, M0, env, T, r1, e1, sa, ro, fun x H1 sa1 => ?_⟩
  obtain ⟨E, M, sx⟩ := id sa1
  unfold attB at e2
  split at e2
  · rename_i c ns xs g1
    split at e2
    · rename_i hc
      obtain ⟨n', p1, e2⟩ := ob e2
      obtain ⟨p, p2, rfl⟩ := om e2
      obtain ⟨⟨A, t⟩, _⟩ := sx.get (v := x) (by simp) g1
      cases t with
      | sh r =>
        cases r with
        | obj h1 h2 h3 h4 h5 =>
          obtain ⟨C, c1, c2, c3⟩ := hcs c hc
          cases h3.uniq c1
          obtain ⟨v, v1, v2⟩ := h5.get p2
          refine ⟨_, _, _, _, v, rfl, sx.same _ _ h1, c2, c3, posS_lookup (by rw [h4]; exact p1) v1, k v H1 ?_⟩
          have := sx.push v2
          exact SA.mid (T := T) (A := [(_, r1.1)]) (by simpa using this)
    · cases e2
  · rename_i c ns xs g1
    split at e2
    · rename_i hc
      obtain ⟨n', p1, e2⟩ := ob e2
      obtain ⟨s', p2, e2⟩ := ob e2
      obtain ⟨⟨A, t⟩, _⟩ := sx.get (v := x) (by simp) g1
      cases t with
      | ins m1 m2 m3 m4 h1 h2 h3 h4 h5 =>
        rename_i a0 dx0 C0 fs0 As0
        obtain ⟨C, c1, c2, c3⟩ := hcs c hc
        cases h3.uniq c1
        obtain ⟨v, A', B', C', v1, _, v2, _⟩ := h5.get p2
        refine ⟨_, _, _, _, v, rfl, h1, c2, c3, posS_lookup (by rw [h4]; exact p1) v1, k v H1 ?_⟩
        split at e2
        · cases e2
          cases v2 with
          | sh r =>
            have := sx.push r
            exact SA.mid (T := T) (A := [(_, r1.1)]) (by simpa using this)
        · rename_i j ρ _ hr1
          cases e2
          obtain ⟨v0, u1, u2, u3⟩ := sx.bor (.ref a0) j ρ (by rw [← hr1]; simp)
          have := sx.pushB u1 (u2.snoc (.ins h1 v1 .nil)) u3
          exact SA.mid (T := T) (A := [(_, r1.1)]) (by simpa using this)
        · cases e2
    · cases e2
  · cases e2
structure MethAt (X : Cx) (k : Nat) (c m : Str) (ls : List Bool) (F : List Sl → Option (Sl × List Sl)) : Prop where
  ex : ∃ C fa, ClsAt X.K c C ∧ Cls X.K C ∧ Meth X.K C m fa ∧ FnAd X k fa ls F
/-- the tree of a method call -/
theorem mcall_ht {args : List Expr} (hb : attributeBase o m X.env (eval o X.env) = eval o X.env) (hf : methodCallForm args.length (backTo pos (starEach args X.env)) [] = true) (hline : (apos.endLine == pos.line) = true) :
    eval (.Call (.Attribute o m apos) args [] pos) X.env = (do
      let ov ← eval o X.env
      standAt apos.atName
      let (f, first) ← holding [ov] (getMethod ov m (do return (← importBound o X.env).getD true))
      callWith pos f first (backTo pos (starEach args X.env)) (backToKw pos (keywordEach [] X.env))) := by
  refine mcall_of (t := fun ov => do
      let (f, first) ← holding [ov] (getMethod ov m (do return (← importBound o X.env).getD true))
      callWith pos f first (backTo pos (starEach args X.env)) (backToKw pos (keywordEach [] X.env))) hb fun ov => ?_
  have hf' : methodCallForm (args.length + ([] : List Keyword).length) (backTo pos (starEach args X.env)) (backToKw pos (keywordEach [] X.env)) = true := hf
  unfold methodCall
  rw [hf']
  have hp : methodCallPos true o X.env apos pos = pure pos := by
    unfold methodCallPos
    rw [hline]
    rfl
  rw [hp]
  rfl
theorem se_mcall {F : Fns} {k : Nat} {tb : List (Str × Nat)} (hm : ∀ c g, tbF tb c = some g → ∃ ls, ls.all (!·) = true ∧ MethAt X k c m ls (F g)) (hr : Room k X.A) (ho : PE X o (tE X.K cf f)) (ha : PA X (e :: es) (tAs X.K cg fs))
    (hb : attributeBase o m X.env (eval o X.env) = eval o X.env) (hf : methodCallForm (e :: es).length (backTo pos (starEach (e :: es) X.env)) [] = true) (hline : (apos.endLine == pos.line) = true)
    (he : starEach (e :: es) X.env = (false, eval e X.env) :: starEach es X.env) (hpl : (backTo pos (starEach es X.env)).any (·.1) = false) :
    PE X (.Call (.Attribute o m apos) (e :: es) [] pos) (tE X.K (cf && cg) fun env => (f env).bind fun r => (clsB r.2 r.1 m).bind fun c => (tbF tb c).bind fun g => if gd r.1 cg = true then (fs r.2).bind fun q => callN F g q.2 (r.1 :: q.1) else none) := by
  refine PE_imp (PE_ex (ι := { i : Str × Nat // tbF tb i.1 = some i.2 }) (t := fun i => fun σ H Q => ∃ (C fa : Addr) (ls : List Bool), ls.all (!·) = true ∧ ClsAt X.K i.1.1 C ∧ FnAd X k fa ls (F i.1.2) ∧ tMeth C m (spF X.K ls (F i.1.2)) [] (fun _ _ _ => False) (tE X.K cf f) (tAs X.K cg fs) σ H Q) fun i => ⟨fun pins s σ H Q I ⟨C, fa, ls, h1, h2, h3, h4⟩ => ?_⟩) fun σ H Q q => ?_
  · obtain ⟨ls2, l2, ⟨C', fa', g1, g2, g3, g4⟩⟩ := hm _ _ i.2
    obtain ⟨fd, ps, G, hk, hbd⟩ := g4.ex
    cases h2.uniq g1
    have : spF X.K ls (F i.1.2) = spF X.K ls2 (F i.1.2) := by
      funext vs H Q E
      unfold spF
      rw [selL_none h1, selL_none l2]
    rw [this] at h4
    exact (pe_meth ho g2 g3 G hr hbd .nil pass0 ha he hpl (mcall_ht hb hf hline)).run pins s σ H Q I h4
  · obtain ⟨H0, M0, env, T, r', e, sa, ro, kk⟩ := q
    obtain ⟨r1, e1, e⟩ := ob e
    obtain ⟨c, e2, e⟩ := ob e
    obtain ⟨g, e3, e⟩ := ob e
    obtain ⟨hg, e⟩ := og e
    obtain ⟨q, e4, e⟩ := ob e
    obtain ⟨ls, l1, ⟨C, fa, g1, g2, g3, g4⟩⟩ := hm c g e3
    refine ⟨⟨(c, g), e3⟩, C, fa, ls, l1, g1, g4, H0, M0, env, T, r1, e1, sa, ro_l ro, fun x H1 sa1 => ?_⟩
    obtain ⟨E, M, sx⟩ := id sa1
    obtain ⟨s, ns, s1, s2, s3⟩ := clsB_some e2
    obtain ⟨a, dx, C', fs', rfl, i1, i2, i3⟩ := (sx.get (v := x) (by simp) s1).inst sx.same s2
    cases i2.uniq g1
    subst i3
    refine ⟨a, dx, fs', rfl, i1, posS_none s3, H0, M0, r1.2, _, q, e4, sa1, ro_snoc (ro_r ro) hg, fun vs H2 hl sa2 => ?_⟩
    show spF X.K ls (F g) (.ref a :: (vs ++ [])) H2 Q _
    rw [List.append_nil]
    exact callN_ok (vs := .ref a :: vs) (bs := r1.1 :: q.1) l1 (by simp [hl]) (by simpa using sa2) e kk
theorem se_mcall0 {F : Fns} {k : Nat} {tb : List (Str × Nat)} (hm : ∀ c g, tbF tb c = some g → ∃ ls, ls.all (!·) = true ∧ MethAt X k c m ls (F g)) (hr : Room k X.A) (ho : PE X o (tE X.K cf f))
    (hb : attributeBase o m X.env (eval o X.env) = eval o X.env) (hline : (apos.endLine == pos.line) = true) :
    PE X (.Call (.Attribute o m apos) [] [] pos) (tE X.K cf fun env => (f env).bind fun r => (clsB r.2 r.1 m).bind fun c => (tbF tb c).bind fun g => callN F g r.2 [r.1]) := by
  refine PE_imp (PE_ex (ι := { i : Str × Nat // tbF tb i.1 = some i.2 }) (t := fun i => fun σ H Q => ∃ (C fa : Addr) (ls : List Bool), ls.all (!·) = true ∧ ClsAt X.K i.1.1 C ∧ FnAd X k fa ls (F i.1.2) ∧ tMeth C m (spF X.K ls (F i.1.2)) [] (fun _ _ _ => False) (tE X.K cf f) tNil σ H Q) fun i => ⟨fun pins s σ H Q I ⟨C, fa, ls, h1, h2, h3, h4⟩ => ?_⟩) fun σ H Q q => ?_
  · obtain ⟨ls2, l2, ⟨C', fa', g1, g2, g3, g4⟩⟩ := hm _ _ i.2
    obtain ⟨fd, ps, G, hk, hbd⟩ := g4.ex
    cases h2.uniq g1
    have : spF X.K ls (F i.1.2) = spF X.K ls2 (F i.1.2) := by
      funext vs H Q E
      unfold spF
      rw [selL_none h1, selL_none l2]
    rw [this] at h4
    exact (pe_meth0 ho g2 g3 G hr hbd .nil pass0 (mcall_ht hb rfl hline)).run pins s σ H Q I h4
  · obtain ⟨H0, M0, env, T, r', e, sa, ro, kk⟩ := q
    obtain ⟨r1, e1, e⟩ := ob e
    obtain ⟨c, e2, e⟩ := ob e
    obtain ⟨g, e3, e⟩ := ob e
    obtain ⟨ls, l1, ⟨C, fa, g1, g2, g3, g4⟩⟩ := hm c g e3
    refine ⟨⟨(c, g), e3⟩, C, fa, ls, l1, g1, g4, H0, M0, env, T, r1, e1, sa, ro, fun x H1 sa1 => ?_⟩
    obtain ⟨E, M, sx⟩ := id sa1
    obtain ⟨s, ns, s1, s2, s3⟩ := clsB_some e2
    obtain ⟨a, dx, C', fs', rfl, i1, i2, i3⟩ := (sx.get (v := x) (by simp) s1).inst sx.same s2
    cases i2.uniq g1
    subst i3
    refine ⟨a, dx, fs', rfl, i1, posS_none s3, ?_⟩
    show spF X.K ls (F g) [.ref a] H1 Q (fun _ _ _ => False)
    exact callN_ok (vs := [.ref a]) (bs := [r1.1]) l1 rfl (by simpa using sa1) e kk
theorem se_lmcall {e0 : Expr} {F : Fns} {k : Nat} {tb : List (Str × Nat)} (hm : ∀ c g, tbF tb c = some g → MethAt X k c m (true :: (e0 :: es).map fun _ => false) (F g)) (hr : Room k X.A) (ho : PE X o (tE X.K cf f)) (ha : PA X (e0 :: es) (tAs X.K cg fs))
    (hb : attributeBase o m X.env (eval o X.env) = eval o X.env) (hf : methodCallForm (e0 :: es).length (backTo pos (starEach (e0 :: es) X.env)) [] = true) (hline : (apos.endLine == pos.line) = true)
    (he : starEach (e0 :: es) X.env = (false, eval e0 X.env) :: starEach es X.env) (hpl : (backTo pos (starEach es X.env)).any (·.1) = false) (hlen : ∀ env r, fs env = some r → r.1.length = (e0 :: es).length) :
    PE X (.Call (.Attribute o m apos) (e0 :: es) [] pos) (tE X.K false fun env => (f env).bind fun r => (clsB r.2 r.1 m).bind fun c => (tbF tb c).bind fun g => if gd r.1 cg = true then (fs r.2).bind fun q => callL F (true :: q.1.map fun _ => false) g q.2 (r.1 :: q.1) else none) := by
  refine PE_imp (PE_ex (ι := { i : Str × Nat // tbF tb i.1 = some i.2 }) (t := fun i => fun σ H Q => ∃ (C : Addr), ClsAt X.K i.1.1 C ∧ tMeth C m (spF X.K (true :: (e0 :: es).map fun _ => false) (F i.1.2)) [] (fun _ _ _ => False) (tE X.K cf f) (tAs X.K cg fs) σ H Q) fun i => ⟨fun pins s σ H Q I ⟨C, h2, h4⟩ => ?_⟩) fun σ H Q q => ?_
  · obtain ⟨C', fa', g1, g2, g3, g4⟩ := (hm _ _ i.2).ex
    obtain ⟨fd, ps, G, hk, hbd⟩ := g4.ex
    cases h2.uniq g1
    exact (pe_meth ho g2 g3 G hr hbd .nil pass0 ha he hpl (mcall_ht hb hf hline)).run pins s σ H Q I h4
  · obtain ⟨H0, M0, env, T, r', e, sa, ro, kk⟩ := q
    obtain ⟨r1, e1, e⟩ := ob e
    obtain ⟨c, e2, e⟩ := ob e
    obtain ⟨g, e3, e⟩ := ob e
    obtain ⟨hg, e⟩ := og e
    obtain ⟨q, e4, e⟩ := ob e
    obtain ⟨C, fa, g1, g2, g3, g4⟩ := (hm c g e3).ex
    refine ⟨⟨(c, g), e3⟩, C, g1, H0, M0, env, T, r1, e1, sa, fun _ => ro rfl, fun x H1 sa1 => ?_⟩
    obtain ⟨E, M, sx⟩ := id sa1
    obtain ⟨s, ns, s1, s2, s3⟩ := clsB_some e2
    obtain ⟨a, dx, C', fs', rfl, i1, i2, i3⟩ := (sx.get (v := x) (by simp) s1).inst sx.same s2
    cases i2.uniq g1
    subst i3
    refine ⟨a, dx, fs', rfl, i1, posS_none s3, H0, M0, r1.2, _, q, e4, sa1, ro_snoc (fun _ => ro rfl) hg, fun vs H2 hl sa2 => ?_⟩
    have hls : (q.1.map fun _ => false) = ((e0 :: es).map fun _ => false) := by
      rw [List.map_const', List.map_const', hlen _ _ e4]
    rw [hls] at e
    show spF X.K (true :: (e0 :: es).map fun _ => false) (F g) (.ref a :: (vs ++ [])) H2 Q (fun _ _ _ => False)
    rw [List.append_nil]
    exact callL_ok (vs := .ref a :: vs) (bs := r1.1 :: q.1) (by simp [hl]) (ro rfl) (by simpa using sa2) e kk
theorem se_lmcall0 {F : Fns} {k : Nat} {tb : List (Str × Nat)} (hm : ∀ c g, tbF tb c = some g → MethAt X k c m [true] (F g)) (hr : Room k X.A) (ho : PE X o (tE X.K cf f))
    (hb : attributeBase o m X.env (eval o X.env) = eval o X.env) (hline : (apos.endLine == pos.line) = true) :
    PE X (.Call (.Attribute o m apos) [] [] pos) (tE X.K false fun env => (f env).bind fun r => (clsB r.2 r.1 m).bind fun c => (tbF tb c).bind fun g => callL F [true] g r.2 [r.1]) := by
  refine PE_imp (PE_ex (ι := { i : Str × Nat // tbF tb i.1 = some i.2 }) (t := fun i => fun σ H Q => ∃ (C : Addr), ClsAt X.K i.1.1 C ∧ tMeth C m (spF X.K [true] (F i.1.2)) [] (fun _ _ _ => False) (tE X.K cf f) tNil σ H Q) fun i => ⟨fun pins s σ H Q I ⟨C, h2, h4⟩ => ?_⟩) fun σ H Q q => ?_
  · obtain ⟨C', fa', g1, g2, g3, g4⟩ := (hm _ _ i.2).ex
    obtain ⟨fd, ps, G, hk, hbd⟩ := g4.ex
    cases h2.uniq g1
    exact (pe_meth0 ho g2 g3 G hr hbd .nil pass0 (mcall_ht hb rfl hline)).run pins s σ H Q I h4
  · obtain ⟨H0, M0, env, T, r', e, sa, ro, kk⟩ := q
    obtain ⟨r1, e1, e⟩ := ob e
    obtain ⟨c, e2, e⟩ := ob e
    obtain ⟨g, e3, e⟩ := ob e
    obtain ⟨C, fa, g1, g2, g3, g4⟩ := (hm c g e3).ex
    refine ⟨⟨(c, g), e3⟩, C, g1, H0, M0, env, T, r1, e1, sa, fun _ => ro rfl, fun x H1 sa1 => ?_⟩
    obtain ⟨E, M, sx⟩ := id sa1
    obtain ⟨s, ns, s1, s2, s3⟩ := clsB_some e2
    obtain ⟨a, dx, C', fs', rfl, i1, i2, i3⟩ := (sx.get (v := x) (by simp) s1).inst sx.same s2
    cases i2.uniq g1
    subst i3
    refine ⟨a, dx, fs', rfl, i1, posS_none s3, ?_⟩
    show spF X.K [true] (F g) [.ref a] H1 Q (fun _ _ _ => False)
    exact callL_ok (vs := [.ref a]) (bs := [r1.1]) rfl (ro rfl) (by simpa using sa1) e kk
/-- a method one of whose parameters stands at its default -/
structure MethD (X : Cx) (k : Nat) (c m : Str) (d : Int) (F : List Sl → Option (Sl × List Sl)) : Prop where
  ex : ∃ (C fa : Addr) (fd : FuncData) (ps : List Str) (ds : List Value), ClsAt X.K c C ∧ Cls X.K C ∧ Meth X.K C m fa ∧ FnOk X.prog X.w X.K X.mg X.base CX0 k fa fd ps (spF X.K [true, false] F) ∧ Vals [.int d] ds ∧ Binds X.K fd ps ds
end
end Me
/-! Me9: new instances, isinstance of the text's classes, dicts. -/
namespace Me
open PySem PySem.Spec PyProof.Rows L2
open NdefX (TabsN NTab TabN)
open LamX (CodeO TabB ExtN)
variable [Reg]

section
variable {X : Cx} {e a b o : Expr} {es : List Expr} {pos p apos : Pos} {x m : Str} {f g h : PEnv → Option (Bw × PEnv)} {fs : PEnv → Option (List Bw × PEnv)} {cf cg ch : Bool}
/-- C(..) -/
structure ClsNew (X : Cx) (k : Nat) (c : Str) (n : Nat) (F : List Sl → Option (Sl × List Sl)) : Prop where
  ex : ∃ C fa, ClsAt X.K c C ∧ X.mg c = some (.ref C) ∧ Mk X.K C fa ∧ FnAd X k fa (true :: List.replicate n false) F
theorem selL_rep {α : Type} (n : Nat) : ∀ xs : List α, selL (List.replicate n false) xs = [] := by
  induction n with
  | zero => intro xs; unfold selL; rfl
  | succ n ih =>
    intro xs
    cases xs with
    | nil => simp [List.replicate_succ, selL]
    | cons x xs => simp [List.replicate_succ, selL, ih]
theorem new_core {K : PySem.W.Frag} {H0 M0 H : Hp} {σ : L2.St} {env : PEnv} {T : List (V × Bw)} {F : Fns} {g n : Nat} {c : Str} {C : Addr} {vs : List V} {bs : List Bw} {ps : List PV} {s : Sl} {Q : VK} {W : XK} (vw : Bool) (hc : ClsAt K c C) (hl : vs.length = bs.length)
    (ro : Roots T) (sa : SA K H0 M0 σ env (T ++ vs.zip bs) H) (hN : vw = false → ∀ v x s, (v, x) ∈ vs.zip bs → slb env x = some s → ∃ p, s = .sh p) (hps : pvbs env bs = some ps) (hF : F g (.ins c [] [] :: ps.map .sh) = some (.sh .non, [s])) (hf : vw = true → s.flat = true)
    (k : ∀ v H', SA K H0 M0 σ env (T ++ [(v, .t s)]) H' → Q v H') {x dx : Addr} (hx : H x = none) (hdx : H dx = none) (ne : dx ≠ x) :
    spF K (true :: List.replicate n false) (F g) (.ref x :: vs) (upd (upd H dx (.own x)) x (.ins C dx [])) (fun v H2 => v = .non ∧ Q (.ref x) H2) W := by
  have hpl : ps.length = bs.length := by
    have : ∀ {bs : List Bw} {ps : List PV}, pvbs env bs = some ps → ps.length = bs.length := by
      intro bs
      induction bs with
      | nil => intro ps e; simp [pvbs] at e; subst e; rfl
      | cons b bs ih =>
        intro ps e
        simp only [pvbs, Option.bind_eq_some_iff, Option.map_eq_some_iff] at e
        obtain ⟨p, _, qs, e2, rfl⟩ := e
        simp [ih e2]
    exact this hps
  obtain ⟨E, M, sx⟩ := sa
  have s1 : Same H (upd H dx (.own x)) := same_new hdx
  have hx1 : upd H dx (.own x) x = none := by rw [upd_ne (Ne.symm ne)]; exact hx
  have s2 : Same H (upd (upd H dx (.own x)) x (.ins C dx [])) := s1.trans (same_new hx1)
  have mx : M x = none := Same.free sx.same hx
  have mdx : M dx = none := Same.free sx.same hdx
  have tr : Tr K H0 M (upd (upd H dx (.own x)) x (.ins C dx [])) (.ref x) (.ins c [] []) [x, dx] :=
    .ins (fs := []) mx (Same.free sx.hyp.old hx) mdx (Same.free sx.hyp.old hdx) upd_same (by rw [upd_ne ne, upd_same]) hc rfl .nil
  have sa2 := sx.alloc s2 tr (by simp [Ne.symm ne]) (fun b hb => by simp at hb; rcases hb with rfl | rfl <;> assumption)
  have sa3 : SA K H0 M0 σ env (T ++ ([(.ref x, .t (.ins c [] []))] ++ vs.zip bs)) (upd (upd H dx (.own x)) x (.ins C dx [])) := by
    refine sa2.perm ?_
    rw [List.append_assoc]
    exact List.Perm.append_left _ List.perm_append_comm
  obtain ⟨E', M', sx'⟩ := sa3
  obtain ⟨H0c, Mc, hcal, hR, k2⟩ := lend_core vw sx' (fun e he => by simp at he; subst he; exact ⟨_, _, rfl⟩) (.inr ro) hN
  have hr : Reps K Mc vs ps := reps_shown hl hps hR
  refine ⟨H0c, Mc, .ins c [] [] :: ps.map .sh, _, by simp [hpl, hl], hcal.shs hr, hF, fun v H' ⟨M1, h'⟩ => ?_⟩
  have hsel : selL (true :: List.replicate n false) (V.ref x :: vs) = [V.ref x] := by
    show V.ref x :: selL (List.replicate n false) vs = _
    rw [selL_rep]
  rw [hsel] at h'
  have hv : v = .non := by
    obtain ⟨A, t⟩ := h'.get (e := (v, .sh .non)) List.mem_cons_self
    cases t with
    | sh r => cases r; rfl
  refine ⟨hv, k _ _ ?_⟩
  have sa4 := k2 (T1 := [(v, .t (.sh .non)), (.ref x, .t s)]) (fun e he => by
    simp at he
    rcases he with rfl | rfl
    · exact ⟨_, _, rfl⟩
    · exact ⟨_, _, rfl⟩) h' (fun z => by
    show Sl.flats [.sh .non, s] = true
    simp [Sl.flats, Sl.flat, PV.flat, hf z])
  exact SA.mid (T := T) (A := [(v, .t (.sh .non))]) (B := [(.ref x, .t s)]) (by simpa using sa4)
theorem newC_ok {K : PySem.W.Frag} {H0 M0 H : Hp} {σ : L2.St} {env : PEnv} {T : List (V × Bw)} {F : Fns} {g n : Nat} {c : Str} {C : Addr} {vs : List V} {bs : List Bw} {r' : Bw × PEnv} {Q : VK} {W : XK} (hc : ClsAt K c C) (hl : vs.length = bs.length)
    (ro : Roots T) (sa : SA K H0 M0 σ env (T ++ vs.zip bs) H) (e : newC F c g env bs = some r')
    (k : ∀ v H', SA K H0 M0 σ r'.2 (T ++ [(v, r'.1)]) H' → Q v H') {x dx : Addr} (hx : H x = none) (hdx : H dx = none) (ne : dx ≠ x) :
    spF K (true :: List.replicate n false) (F g) (.ref x :: vs) (upd (upd H dx (.own x)) x (.ins C dx [])) (fun v H2 => v = .non ∧ Q (.ref x) H2) W := by
  unfold newC at e
  simp only [Option.bind_eq_some_iff] at e
  obtain ⟨ps, e1, q, e2, e⟩ := e
  split at e
  · rename_i s
    split at e
    · rename_i fl
      cases e
      exact new_core true hc hl ro sa (fun z => by cases z) e1 e2 (fun _ => fl) k hx hdx ne
    · simp only [Option.map_eq_some_iff] at e
      obtain ⟨q, e3, rfl⟩ := e
      obtain ⟨hl2, sa2⟩ := SA.fixs (B := []) hl (by simpa using sa) e3
      rw [List.append_nil] at sa2
      have hq : q.1 = ps := Option.some.inj ((fixs_pvbs (pvbs_ntB e1) e3).symm.trans e1)
      subst hq
      have hpp : pvbs q.2 (q.1.map fun p => Bw.t (.sh p)) = some q.1 := by
        have : ∀ ps : List PV, pvbs q.2 (ps.map fun p => Bw.t (.sh p)) = some ps := by
          intro ps
          induction ps with
          | nil => rfl
          | cons p ps ih => simp [pvbs, pvb, slb, ih, Sl.pv, Sl.sub]
        exact this _
      exact new_core (bs := q.1.map fun p => Bw.t (.sh p)) false hc (by simp [hl2, hl]) ro sa2 (fun _ v x s hm hs => by
        obtain ⟨p, _, rfl⟩ := List.mem_map.mp (List.of_mem_zip hm).2
        cases hs
        exact ⟨p, rfl⟩) hpp e2 (fun z => by cases z) k hx hdx ne
  · cases e
theorem se_new {F : Fns} {k g : Nat} {c : Str} {n : Nat} (A : ClsNew X k c n (F g)) (hr : Room (k + 1) X.A) (hg : Gl X c) (ha : PA X (e :: es) (tAs X.K cg fs)) (hdb : (c == ("__debug__" : Str)) = false)
    (he : starEach (e :: es) X.env = (false, eval e X.env) :: starEach es X.env) (hpl : (backTo pos (starEach es X.env)).any (·.1) = false) :
    PE X (.Call (.Name c p) (e :: es) [] pos) (tE X.K false fun env => (fs env).bind fun r => newC F c g r.2 r.1) := by
  obtain ⟨C, fa, hc, hm, M, ⟨fd, ps, G, hk, hb⟩⟩ := A.ex
  refine PE_imp (pe_make M G hr hg hm hb .nil pass0 ha hdb he hpl) fun σ H Q q => ?_
  obtain ⟨H0, M0, env, T, r', e, sa, ro, k⟩ := q
  obtain ⟨r1, e1, e⟩ := ob e
  refine ⟨H0, M0, env, T, r1, e1, sa, fun _ => ro rfl, fun vs H1 hl sa1 => ?_⟩
  intro x dx hx hdx ne
  show spF X.K _ (F g) (.ref x :: (vs ++ [])) _ _ _
  rw [List.append_nil]
  exact newC_ok hc hl (ro rfl) sa1 e k hx hdx ne
theorem se_new0 {F : Fns} {k g : Nat} {c : Str} {n : Nat} (A : ClsNew X k c n (F g)) (hr : Room (k + 1) X.A) (hg : Gl X c) (hdb : (c == ("__debug__" : Str)) = false) :
    PE X (.Call (.Name c p) [] [] pos) (tE X.K false fun env => newC F c g env []) := by
  obtain ⟨C, fa, hc, hm, M, ⟨fd, ps, G, hk, hb⟩⟩ := A.ex
  refine PE_imp (pe_make0 M G hr hg hm hb .nil pass0 hdb) fun σ H Q q => ?_
  obtain ⟨H0, M0, env, T, r', e, sa, ro, k⟩ := q
  intro x dx hx hdx ne
  exact newC_ok (vs := []) (bs := []) hc rfl (ro rfl) (by simpa using sa) e k hx hdx ne

/-! ### isinstance of the text's classes -/
structure InsO (K : PySem.W.Frag) (C : Addr) : Prop where
  cl : Cls K C
  ha : PySem.W.findIn K (.ref C) "__class__" = some (some (.builtin "object.__class__"))
  hn : PySem.W.specialIn K (.builtin "object.__class__") "__get__" = some (some (.builtin "getset_descriptor.__get__"))
  htk : PySem.W.takesIn K (.builtin "object.__class__") = some true
  hm : PySem.W.mroIn K C (.type "object") = some true
/-! ### dicts -/
end
end Me
/-! Me9s: sorted(set(xs)) of a list of ints. -/
namespace Me
open PySem PySem.Spec PyProof.Rows L2
open NdefX (TabsN NTab TabN)
open LamX (CodeO TabB ExtN)
variable [Reg]

section
variable {P : Program} {w : World} {A : Around} {E : Value → Shared → Prop} {s : Shared}
end
section
variable {X : Cx} {a : Expr} {pos p p2 p3 : Pos} {f : PEnv → Option (Bw × PEnv)} {cf : Bool}
end
section
variable {X : Cx} {a : Expr} {pos p p2 p3 : Pos} {f : PEnv → Option (Bw × PEnv)} {cf : Bool}
end
section
variable {prog : Program} {w : World} {A : Around} {E : Value → Shared → Prop} {s : Shared}
end
section
variable {prog : Program} {w : World} {A : Around} {E : Value → Shared → Prop} {s : Shared}
end
section
variable {prog : Program} {w : World} {A : Around} {E : Value → Shared → Prop} {s : Shared}
end
section
variable {prog : Program} {w : World} {A : Around} {E : Value → Shared → Prop} {s : Shared}
end
section
variable {X : Cx}
end
section
variable {X : Cx} {a : Expr} {pos p p2 p3 : Pos} {f : PEnv → Option (Bw × PEnv)} {cf : Bool}
end
end Me
/-! Me9v: functions that a def gave back, called. -/
namespace Me
open PySem PySem.Spec PyProof.Rows L2
open NdefX (TabsN NTab TabN CellsAt)
open LamX (CodeO TabB ExtN)
variable [Reg]

/-- what such a function promises: its captured cells hold ws -/
noncomputable def FvOk (P : Program) (w : World) (K : PySem.W.Frag) (mg : Str → Option Value) (base : Heap) (k g : Nat) (F : List Sl → Option (Sl × List Sl)) : Prop :=
  ∀ (A : Around) (outer : List Env) (s : Shared) (H : Hp) (us : List Value) (vs ws : List V) (Q : VK) (f c : Addr) (cl : List (Str × Addr)), RegS.inn g = true → (∀ y a, cl.lookup y = some a → y ∈ (RegS.nf g).fr) → Room k A → Env0 P w K mg base A outer s H →
    H f = some (CloO f (RegS.nf g) cl c) → H c = some (CodeO c (RegS.nf g).qual) → CellsAt cl (RegS.nf g).fr (ws.map some) s.heap H → Vals vs us → spF K [] F (vs ++ ws) H Q E0 →
    codeAny (model P w) A (.call (.ref f) ⟨us, []⟩) (CR CX0 outer P w H s Q E0) s
section
variable {X : Cx} {pins : List (Addr × Obj)} {σ : L2.St} {H : Hp} {s : Shared}
theorem clo_at {P : Program} {w : World} {h : Heap} {f c : Addr} {F : NFd} {cl : List (Str × Addr)} (hok : HOk P w H h) (e : H f = some (CloO f F cl c)) : ∃ (od : Option Addr) (sl : Array (Option Value)) (doc pm ctv : Value), h.get? f = some (⟨.type "function", od, .func (F.fd cl c doc pm ctv), sl⟩ : Obj) := by
  obtain ⟨z, _, _⟩ := hok f _ e
  exact z
open Classical in
end
end Me
set_option maxHeartbeats 2000000
/-! Me9t: d.items() of a dict with tuple keys, while it is locked; its len. -/
namespace Me
open PySem PySem.Spec PyProof.Rows L2
section
end
end Me
/-! Me10: targets, what is walked, comprehensions. -/
namespace Me
open PySem PySem.Spec PyProof.Rows L2
open NdefX (TabsN NTab TabN)
open LamX (CodeO TabB ExtN)
variable [Reg]

section
variable {K : PySem.W.Frag} {H0 M0 M H : Hp} {σ : L2.St} {env : PEnv} {T T' A B : List (V × Bw)} {E : List (V × Sl)}
theorem SAx.pushX (h : SAx K H0 M0 σ env T H E M) {v : V} {p : PV} (r : Rep K M v p) : SAx K H0 M0 σ env (T ++ [(v, .t (.sh p))]) H E M := by
  refine ⟨h.lv, ?_, h.bors (Same.refl H) fun w i π hm => mem_snoc_t hm⟩
  rw [tents_append, ← List.append_assoc]
  exact h.hyp.push r
theorem SAx.pushes : ∀ {vs : List V} {ps : List PV} {T : List (V × Bw)}, SAx K H0 M0 σ env T H E M → Reps K M vs ps → SAx K H0 M0 σ env (T ++ vs.zip (ps.map fun p => Bw.t (.sh p))) H E M
  | [], _, T, h, .nil => by simpa using h
  | v :: vs, p :: ps, T, h, .cons r t => by
    have := SAx.pushes (h.pushX r) t
    simpa using this
theorem SA.set' {v : V} {s : Sl} {i : Nat} (h : SA K H0 M0 σ env (T ++ [(v, .t s)]) H) (hT : ∀ v π, (v, Bw.b i π) ∉ T) : SA K H0 M0 (σ.set i (some v)) (env.set i (some s)) T H := by
  by_cases hi : i < env.length
  · exact h.set hi hT
  · have hl := h.length
    rw [List.set_eq_of_length_le (by omega), List.set_eq_of_length_le (by omega)]
    exact h.left

/-! ### targets -/
noncomputable def gNames : List Nat → TGs
  | [] => gNil
  | i :: is => gCons (gName i) (gNames is)
noncomputable def gT (K : PySem.W.Frag) : Tg → TG
  | .name i => gName i
  | .tup is => gTup K is.length (gNames is)
noncomputable def tgSl : Tg → List Nat
  | .name i => [i]
  | .tup is => is
theorem names_ok {Q : L2.St → Hp → Prop} : ∀ {is : List Nat} {vs : List V} {ps : List PV} {σ : L2.St} {env env' : PEnv}, setAll is ps env = some env' → vs.length = ps.length → SA K H0 M0 σ env (T ++ vs.zip (ps.map fun p => Bw.t (.sh p))) H →
    (∀ i ∈ is, ∀ v π, (v, Bw.b i π) ∉ T) → (∀ σ2, SA K H0 M0 σ2 env' T H → σ2.length = σ.length → (∀ j, j ∉ is → σ2[j]? = σ[j]?) → Q σ2 H) → gNames is vs σ H Q
  | [], vs, [], σ, env, env', e, hl, sa, _, k => by
    have : vs = [] := by simpa using hl
    subst this
    simp only [setAll, Option.some.injEq] at e
    subst e
    exact ⟨rfl, k σ (by simpa using sa) rfl fun _ _ => rfl⟩
  | [], _, _ :: _, _, _, _, e, _, _, _, _ => by simp [setAll] at e
  | i :: is, vs, [], _, _, _, e, _, _, _, _ => by simp [setAll] at e
  | i :: is, [], p :: ps, _, _, _, e, hl, _, _, _ => by simp at hl
  | i :: is, v :: vs, p :: ps, σ, env, env', e, hl, sa, hT, k => by
    refine ⟨v, vs, rfl, ?_⟩
    show gNames is vs (σ.set i (some v)) H Q
    have nb : ∀ w π, (w, Bw.b i π) ∉ T ++ vs.zip (ps.map fun p => Bw.t (.sh p)) := fun w π hm => by
      rcases List.mem_append.mp hm with z | z
      · exact hT i List.mem_cons_self w π z
      · have := List.of_mem_zip z
        simp at this
    have sa2 : SA K H0 M0 σ env (T ++ vs.zip (ps.map fun p => Bw.t (.sh p)) ++ [(v, .t (.sh p))]) H := by
      refine sa.perm ?_
      rw [List.append_assoc]
      refine List.Perm.append_left _ ?_
      simp only [List.map_cons, List.zip_cons_cons]
      exact List.perm_append_comm (l₁ := [(v, Bw.t (.sh p))])
    refine names_ok (σ := σ.set i (some v)) e (by simpa using hl) (sa2.set' nb) (fun j hj => hT j (List.mem_cons_of_mem _ hj)) fun σ2 s2 l2 g2 => ?_
    refine k σ2 s2 (by rw [l2, List.length_set]) fun j hj => ?_
    simp only [List.mem_cons, not_or] at hj
    rw [g2 j hj.2, List.getElem?_set_ne (Ne.symm hj.1)]
theorem bind_ok {t : Tg} {p : PV} {env' : PEnv} {x : V} {Q : L2.St → Hp → Prop} (e : bindT t p env = some env') (sa : SA K H0 M0 σ env (T ++ [(x, .t (.sh p))]) H) (hT : ∀ i ∈ tgSl t, ∀ v π, (v, Bw.b i π) ∉ T)
    (k : ∀ σ2, SA K H0 M0 σ2 env' T H → σ2.length = σ.length → (∀ j, j ∉ tgSl t → σ2[j]? = σ[j]?) → Q σ2 H) : gT K t x σ H Q := by
  cases t with
  | name i =>
    cases e
    refine k _ (sa.set' (hT i (by simp [tgSl]))) (List.length_set ..) fun j hj => ?_
    simp only [tgSl, List.mem_singleton] at hj
    rw [List.getElem?_set_ne (Ne.symm hj)]
  | tup is =>
    cases p with
    | tup ps =>
      obtain ⟨E, M, sx⟩ := id sa
      obtain ⟨a, vs, rfl, h1, r1⟩ := (sx.get (v := x) (s := .sh (.tup ps)) (x := .t (.sh (.tup ps))) (by simp) rfl).tup rfl sx.same
      have hlen : ∀ {is : List Nat} {ps : List PV} {env : PEnv}, setAll is ps env = some env' → is.length = ps.length := by
        intro is
        induction is with
        | nil => intro ps env e; cases ps with
          | nil => rfl
          | cons p ps => simp [setAll] at e
        | cons i is ih => intro ps env e; cases ps with
          | nil => simp [setAll] at e
          | cons p ps => simp only [List.length_cons]; rw [ih (ps := ps) e]
      refine ⟨a, vs, rfl, .of h1, by rw [r1.length]; exact (hlen e).symm, ?_⟩
      have sa2 : SA K H0 M0 σ env (T ++ vs.zip (ps.map fun p => Bw.t (.sh p))) H := SA.mid (A := [(.ref a, .t (.sh (.tup ps)))]) ⟨E, M, sx.pushes r1⟩
      exact names_ok e r1.length sa2 hT k
    | _ => simp [bindT] at e

/-! ### what is walked -/
noncomputable def Walks (K : PySem.W.Frag) (H0 M0 : Hp) (S : List (V × Bw)) (ps : List PV) (J : It) : Prop := ∀ (i : Nat) (σ : L2.St) (env : PEnv) (T : List (V × Bw)) (H : Hp), (∀ e ∈ S, e ∈ T) → SA K H0 M0 σ env T H →
  (∀ p, ps[i]? = some p → J.go i H ∧ ∀ x H', J.yld i H x H' → SA K H0 M0 σ env (T ++ [(x, .t (.sh p))]) H') ∧ (ps.length ≤ i → J.stop i H)
noncomputable def tIs (K : PySem.W.Frag) (c : Bool) (f : PEnv → Option (List PV × PEnv)) : TI := fun σ H R => ∃ H0 M0 env T r, f env = some r ∧ SA K H0 M0 σ env T H ∧ (c = false → Roots T) ∧ ∀ J H' S, noB [] S → SA K H0 M0 σ r.2 (T ++ S) H' → Walks K H0 M0 S r.1 J → R J H'
theorem SAx.shl (h : SAx K H0 M0 σ env T H E M) {a : Addr} {ps : List PV} (hm : (V.ref a, Bw.t (.sh (.lst ps))) ∈ T) : ∃ vs, SqL K H a vs ∧ Reps K M vs ps := by
  obtain ⟨b, vs, e, h1, _, r1⟩ := (h.get (s := .sh (.lst ps)) hm rfl).lst rfl h.same
  cases e
  exact ⟨vs, h1, r1 rfl⟩
theorem SAx.sht (h : SAx K H0 M0 σ env T H E M) {a : Addr} {ps : List PV} (hm : (V.ref a, Bw.t (.sh (.tup ps))) ∈ T) : ∃ vs, SqT K H a vs ∧ Reps K M vs ps := by
  obtain ⟨b, vs, e, h1, r1⟩ := (h.get (s := .sh (.tup ps)) hm rfl).tup rfl h.same
  cases e
  exact ⟨vs, .of h1, r1⟩
theorem walks_lst {a : Addr} {ps : List PV} (hm : (V.ref a, Bw.t (.sh (.lst ps))) ∈ T) : Walks K H0 M0 T ps (Itl K a) := by
  intro i σ env T2 H hS sa
  obtain ⟨E, M, sx⟩ := sa
  obtain ⟨vs, h1, r1⟩ := sx.shl (a := a) (ps := ps) (hS _ hm)
  refine ⟨fun p e => ?_, fun hl => ⟨vs, h1, by rw [r1.length]; exact hl⟩⟩
  obtain ⟨v, e2, r2⟩ := r1.get e
  refine ⟨⟨vs, v, h1, e2⟩, fun x H' y => ?_⟩
  obtain ⟨rfl, q⟩ := y
  have := (q vs h1).symm.trans e2
  cases this
  exact sx.push r2
theorem walks_tup {a : Addr} {ps : List PV} (hm : (V.ref a, Bw.t (.sh (.tup ps))) ∈ T) : Walks K H0 M0 T ps (Itt K a) := by
  intro i σ env T2 H hS sa
  obtain ⟨E, M, sx⟩ := sa
  obtain ⟨vs, h1, r1⟩ := sx.sht (a := a) (ps := ps) (hS _ hm)
  refine ⟨fun p e => ?_, fun hl => ⟨vs, h1, by rw [r1.length]; exact hl⟩⟩
  obtain ⟨v, e2, r2⟩ := r1.get e
  refine ⟨⟨vs, v, h1, e2⟩, fun x H' y => ?_⟩
  obtain ⟨rfl, q⟩ := y
  have := (q vs h1).symm.trans e2
  cases this
  exact sx.push r2
theorem walks_range (lo : Int) (n : Nat) : Walks K H0 M0 T (rangeL lo n) (Itr lo n) := by
  intro i σ env T2 H hS sa
  obtain ⟨E, M, sx⟩ := sa
  refine ⟨fun p e => ?_, fun hl => (show n ≤ i by simpa [rangeL] using hl)⟩
  have hi : i < n := by
    have := (List.getElem?_eq_some_iff.mp e).1
    simpa [rangeL] using this
  refine ⟨hi, fun x H' y => ?_⟩
  obtain ⟨rfl, rfl⟩ := y
  have e2 : p = .int (lo + (i : Int)) := by
    simp only [rangeL, List.getElem?_map, List.getElem?_range hi, Option.map_some, Option.some.injEq] at e
    exact e.symm
  subst e2
  exact sx.push (.int _)
theorem walks_str (s : Str) : Walks K H0 M0 T (s.cps.toList.map fun c => PV.str ⟨#[c]⟩) (Its s) := by
  intro i σ env T2 H hS sa
  obtain ⟨E, M, sx⟩ := sa
  refine ⟨fun p e => ?_, fun hl => (show s.cps.size ≤ i by simpa using hl)⟩
  have hi : i < s.cps.size := by
    have := (List.getElem?_eq_some_iff.mp e).1
    simpa using this
  refine ⟨hi, fun x H' y => ?_⟩
  obtain ⟨rfl, c, h1, rfl⟩ := y
  have e2 : p = .str ⟨#[c]⟩ := by
    simp only [List.getElem?_map, Option.map_eq_some_iff, Array.getElem?_toList] at e
    obtain ⟨c', e3, rfl⟩ := e
    rw [h1] at e3; cases e3; rfl
  subst e2
  exact sx.push (.str _)
theorem walks_enum {a : Addr} {ps : List PV} (hm : (V.ref a, Bw.t (.sh (.lst ps))) ∈ T) : Walks K H0 M0 T (enumL ps) (Ite K a) := by
  intro i σ env T2 H hS sa
  obtain ⟨E, M, sx⟩ := sa
  obtain ⟨vs, h1, r1⟩ := sx.shl (a := a) (ps := ps) (hS _ hm)
  refine ⟨fun p e => ?_, fun hl => ⟨vs, h1, by rw [r1.length]; simpa [enumL] using hl⟩⟩
  simp only [enumL, List.getElem?_zipWith] at e
  have hi : i < ps.length := by
    refine Nat.lt_of_not_le fun z => ?_
    have : (List.range ps.length)[i]? = none := List.getElem?_eq_none (by simpa using z)
    rw [this] at e
    cases e
  rw [List.getElem?_range hi, List.getElem?_eq_getElem hi] at e
  have e' : PV.tup [.int (i : Int), ps[i]] = p := by simpa using e
  obtain ⟨v, e2, r2⟩ := r1.get (List.getElem?_eq_getElem hi)
  refine ⟨⟨vs, v, h1, e2⟩, fun x H' y => ?_⟩
  obtain ⟨Q, w, rfl, hQ, rfl, q⟩ := y
  have := (q vs h1).symm.trans e2
  cases this
  rw [← e']
  exact sx.tup hQ (.cons (.int _) (.cons r2 .nil))
theorem walks_zipL {a b : Addr} {ps qs : List PV} (hm : (V.ref a, Bw.t (.sh (.lst ps))) ∈ T) (hm' : (V.ref b, Bw.t (.sh (.lst qs))) ∈ T) : Walks K H0 M0 T (ps.zipWith (fun x y => PV.tup [x, y]) qs) (Itz K a b) := by
  intro i σ env T2 H hS sa
  obtain ⟨E, M, sx⟩ := sa
  obtain ⟨vs, h1, r1⟩ := sx.shl (a := a) (ps := ps) (hS _ hm)
  obtain ⟨ws, h2, r2⟩ := sx.shl (a := b) (ps := qs) (hS _ hm')
  refine ⟨fun p e => ?_, fun hl => ⟨vs, ws, h1, h2, ?_⟩⟩
  · obtain ⟨x, y, e1, e2, rfl⟩ := List.getElem?_zipWith_eq_some.mp e
    obtain ⟨v, e3, r3⟩ := r1.get e1
    obtain ⟨w, e4, r4⟩ := r2.get e2
    refine ⟨⟨vs, ws, v, w, h1, h2, e3, e4⟩, fun z H' yy => ?_⟩
    obtain ⟨Q, v', w', rfl, hQ, rfl, q1, q2⟩ := yy
    have e5 := (q1 vs h1).symm.trans e3
    have e6 := (q2 ws h2).symm.trans e4
    cases e5; cases e6
    exact sx.tup hQ (.cons r3 (.cons r4 .nil))
  · rw [r1.length, r2.length]
    simp at hl
    omega
theorem walks_zipT {a b : Addr} {ps qs : List PV} (hm : (V.ref a, Bw.t (.sh (.tup ps))) ∈ T) (hm' : (V.ref b, Bw.t (.sh (.tup qs))) ∈ T) : Walks K H0 M0 T (ps.zipWith (fun x y => PV.tup [x, y]) qs) (RZ.ItzT K a b) := by
  intro i σ env T2 H hS sa
  obtain ⟨E, M, sx⟩ := sa
  obtain ⟨vs, h1, r1⟩ := sx.sht (a := a) (ps := ps) (hS _ hm)
  obtain ⟨ws, h2, r2⟩ := sx.sht (a := b) (ps := qs) (hS _ hm')
  refine ⟨fun p e => ?_, fun hl => ⟨vs, ws, h1, h2, ?_⟩⟩
  · obtain ⟨x, y, e1, e2, rfl⟩ := List.getElem?_zipWith_eq_some.mp e
    obtain ⟨v, e3, r3⟩ := r1.get e1
    obtain ⟨w, e4, r4⟩ := r2.get e2
    refine ⟨⟨vs, ws, v, w, h1, h2, e3, e4⟩, fun z H' yy => ?_⟩
    obtain ⟨Q, v', w', rfl, hQ, rfl, q1, q2⟩ := yy
    have e5 := (q1 vs h1).symm.trans e3
    have e6 := (q2 ws h2).symm.trans e4
    cases e5; cases e6
    exact sx.tup hQ (.cons r3 (.cons r4 .nil))
  · rw [r1.length, r2.length]
    simp at hl
    omega
end

section
variable {X : Cx} {e a b tg : Expr} {pos p tpos : Pos} {f g : PEnv → Option (Bw × PEnv)} {elts : List Expr} {kk : Nat} {cf cg : Bool}
theorem si_val (he : PE X e (tE X.K cf f)) : PI X tg e (tIs X.K cf fun env => (f env).bind fun r => (Me.fix r.2 r.1).bind fun q => (items1 q.1).map fun xs => (xs, q.2)) := by
  refine PI_imp (PI_or (pi_list he) (PI_or (pi_tup he) (pi_str he))) fun σ H R q => ?_
  obtain ⟨H0, M0, env, T, r', e, sa, ro, k⟩ := q
  obtain ⟨r1, e1, e⟩ := ob e
  obtain ⟨q, e2, e⟩ := ob e
  obtain ⟨xs, e3, rfl⟩ := om e
  obtain ⟨pq, eq⟩ := q
  cases pq with
  | lst ps =>
    cases e3
    refine .inl ⟨H0, M0, env, T, r1, e1, sa, ro, fun v H' sa' => ?_⟩
    have sa2 := SA.fix (B := []) sa' e2
    obtain ⟨E, M, sx⟩ := id sa2
    obtain ⟨a, vs, rfl, h1, r1, _⟩ := (sx.get (v := v) (s := .sh (.lst xs)) (x := .t (.sh (.lst xs))) (by simp) rfl).lst rfl sx.same
    exact ⟨a, rfl, ⟨vs, h1⟩, k _ _ _ (noB.one _ _) sa2 (walks_lst (by simp))⟩
  | tup ps =>
    cases e3
    refine .inr (.inl ⟨H0, M0, env, T, r1, e1, sa, ro, fun v H' sa' => ?_⟩)
    have sa2 := SA.fix (B := []) sa' e2
    obtain ⟨E, M, sx⟩ := id sa2
    obtain ⟨a, vs, rfl, h1, r1⟩ := (sx.get (v := v) (s := .sh (.tup xs)) (x := .t (.sh (.tup xs))) (by simp) rfl).tup rfl sx.same
    exact ⟨a, rfl, ⟨vs, .of h1⟩, k _ _ _ (noB.one _ _) sa2 (walks_tup (by simp))⟩
  | str z =>
    cases e3
    refine .inr (.inr ⟨H0, M0, env, T, r1, e1, sa, ro, fun v H' sa' => ?_⟩)
    have sa2 := SA.fix (B := []) sa' e2
    obtain ⟨E, M, sx⟩ := id sa2
    exact ⟨z, (sx.get (v := v) (s := .sh (.str z)) (x := .t (.sh (.str z))) (by simp) rfl).str rfl, k _ _ _ (noB.one _ _) sa2 (walks_str z)⟩
  | _ => cases e3
theorem inR_iff {j : Int} (h : inR j = true) : -(2 ^ 62) ≤ j ∧ j < 2 ^ 62 := of_decide_eq_true h
theorem si_range1 (hg : Gl X "range") (hm : X.mg "range" = none) (he : PE X e (tE X.K cf f)) (hs : starEach [e] X.env = [(false, eval e X.env)]) :
    PI X tg (.Call (.Name "range" p) [e] [] pos) (tIs X.K cf fun env => (f env).bind fun r => match pvb r.2 r.1 with | some (.int j) => if inR j then some (rangeL 0 j.toNat, r.2) else none | _ => none) := by
  refine PI_imp (pi_range1 hg hm (pa_cons he pa_nil hs) hs) fun σ H R q => ?_
  obtain ⟨H0, M0, env, T, r', e, sa, ro, k⟩ := q
  obtain ⟨r1, e1, e⟩ := ob e
  refine ⟨H0, M0, env, T, r1, e1, sa, ro, fun v H' sa' => ?_⟩
  split at e
  · rename_i j e2
    split at e
    · rename_i hj
      cases e
      obtain ⟨E, M, sx⟩ := id sa'
      obtain ⟨s1, g1, g2⟩ := pvb_sl e2
      have := (sx.get (v := v) (by simp) g1).int g2
      subst this
      exact ⟨j, rfl, (inR_iff hj).1, (inR_iff hj).2, k _ _ [] noB.nil (by simpa using sa'.left) (walks_range 0 _)⟩
    · cases e
  · cases e
theorem si_enum (hg : Gl X "enumerate") (hm : X.mg "enumerate" = none) (he : PE X e (tE X.K cf f)) (hs : starEach [e] X.env = [(false, eval e X.env)]) :
    PI X (.Tuple elts kk tpos) (.Call (.Name "enumerate" p) [e] [] pos) (tIs X.K cf fun env => (f env).bind fun r => (Me.fix r.2 r.1).bind fun q => match q.1 with | .lst xs => some (enumL xs, q.2) | _ => none) := by
  refine PI_imp (pi_enum hg hm (pa_cons he pa_nil hs) hs) fun σ H R q => ?_
  obtain ⟨H0, M0, env, T, r', e, sa, ro, k⟩ := q
  obtain ⟨r1, e1, e⟩ := ob e
  obtain ⟨q, e2, e⟩ := ob e
  refine ⟨H0, M0, env, T, r1, e1, sa, ro, fun v H' sa' => ?_⟩
  have sa2 := SA.fix (B := []) sa' e2
  obtain ⟨pq, eq⟩ := q
  cases pq with
  | lst ps =>
    cases e
    obtain ⟨E, M, sx⟩ := id sa2
    obtain ⟨a, vs, rfl, h1, r1, _⟩ := (sx.get (v := v) (s := .sh (.lst ps)) (x := .t (.sh (.lst ps))) (by simp) rfl).lst rfl sx.same
    exact ⟨a, vs, rfl, h1, k _ _ _ (noB.one _ _) sa2 (walks_enum (by simp))⟩
  | _ => cases e
theorem si_zip (hg : Gl X "zip") (hm : X.mg "zip" = none) (ha : PE X a (tE X.K cf f)) (hb : PE X b (tE X.K cg g)) (hs : starEach [a, b] X.env = (false, eval a X.env) :: starEach [b] X.env) (hs2 : starEach [b] X.env = [(false, eval b X.env)]) :
    PI X (.Tuple elts kk tpos) (.Call (.Name "zip" p) [a, b] [] pos) (tIs X.K (cf && cg) fun env => (f env).bind fun r => if gd r.1 cg = true then (g r.2).bind fun q => (Me.fixs q.2 [r.1, q.1]).bind fun z => match z.1 with
    | [x, y] => (zipL x y).map fun xs => (xs, z.2)
    | _ => none else none) := by
  refine PI_imp (RZ.pi_zipA hg hm (pa_cons ha (pa_cons hb pa_nil hs2) hs) hs (by rw [hs2]; rfl)) fun σ H R q => ?_
  obtain ⟨H0, M0, env, T, r', e, sa, ro, k⟩ := q
  obtain ⟨r1, e1, e⟩ := ob e
  obtain ⟨hg2, e⟩ := og e
  obtain ⟨r2, e2, e⟩ := ob e
  obtain ⟨z, e3, e⟩ := ob e
  refine ⟨H0, M0, env, T, r1, e1, sa, ro_l ro, fun v H1 sa1 => ⟨H0, M0, r1.2, _, r2, e2, sa1, ro_snoc (ro_r ro) hg2, fun w H2 sa2 => ?_⟩⟩
  obtain ⟨hl, sa3⟩ := SA.fixs (vs := [v, w]) (A := T) (B := []) rfl (by simpa using sa2) e3
  obtain ⟨zs, ez⟩ := z
  match zs, hl with
  | [x, y], _ =>
    obtain ⟨xs, e4, rfl⟩ := om e
    have sa4 : SA X.K H0 M0 σ ez (T ++ [(v, .t (.sh x)), (w, .t (.sh y))]) H2 := by simpa using sa3
    have nb : noB [] [(v, Bw.t (.sh x)), (w, Bw.t (.sh y))] := fun u i π h => by simp at h
    obtain ⟨E, M, sx⟩ := id sa4
    cases x with
    | lst ps =>
      cases y with
      | lst qs =>
        cases e4
        obtain ⟨a, vs, rfl, h1, _, _⟩ := (sx.get (v := v) (s := .sh (.lst ps)) (x := .t (.sh (.lst ps))) (by simp) rfl).lst rfl sx.same
        obtain ⟨b, ws, rfl, h2, _, _⟩ := (sx.get (v := w) (s := .sh (.lst qs)) (x := .t (.sh (.lst qs))) (by simp) rfl).lst rfl sx.same
        exact ⟨a, b, vs, ws, rfl, .inl ⟨h1, h2, k _ _ _ nb sa4 (walks_zipL (by simp) (by simp))⟩⟩
      | _ => cases e4
    | tup ps =>
      cases y with
      | tup qs =>
        cases e4
        obtain ⟨a, vs, rfl, h1, _⟩ := (sx.get (v := v) (s := .sh (.tup ps)) (x := .t (.sh (.tup ps))) (by simp) rfl).tup rfl sx.same
        obtain ⟨b, ws, rfl, h2, _⟩ := (sx.get (v := w) (s := .sh (.tup qs)) (x := .t (.sh (.tup qs))) (by simp) rfl).tup rfl sx.same
        exact ⟨a, b, vs, ws, rfl, .inr ⟨.of h1, .of h2, k _ _ _ nb sa4 (walks_zipT (by simp) (by simp))⟩⟩
      | _ => cases e4
    | _ => cases e4
end
end Me
/-! Me11: comprehensions; statements. -/
namespace Me
open PySem PySem.Spec PyProof.Rows L2
open NdefX (TabsN NTab TabN)
open LamX (CodeO TabB ExtN)
variable [Reg]

/-! ### comprehensions -/
noncomputable def compStep (t : Tg) (vs : List Nat) (fc : PEnv → Option (Bool × PEnv)) (fe : PEnv → Option (Bw × PEnv)) (p : PV) (e : PEnv) : Option (Option PV × PEnv) :=
  (bindT t p e).bind fun e1 => (fc e1).bind fun c => if c.1 then (fe c.2).bind fun x => (fix x.2 x.1).map fun y => (some y.1, wipeE vs y.2) else some (none, wipeE vs c.2)
noncomputable def compF (t : Tg) (own : List (Str × Nat)) (fi : PEnv → Option (List PV × PEnv)) (fc : PEnv → Option (Bool × PEnv)) (fe : PEnv → Option (Bw × PEnv)) (env : PEnv) : Option (Bw × PEnv) :=
  (fi env).bind fun r => if (own.map (·.2)).all (shN r.2) then
      (compL (compStep t (own.map (·.2)) fc fe) r.1 (wipeE (own.map (·.2)) r.2) []).map fun q => (.t (.own q.1), backE r.2 (own.map (·.2)) (wipeE (own.map (·.2)) q.2))
    else none
theorem wipe_wipe (σ : L2.St) (vs : List Nat) : wipe (wipe σ vs) vs = wipe σ vs := wipe_eq (wipe_length σ vs) fun i hi => wipe_get hi
/-- what is lent from a slot that is covered, as a value of its own meanwhile -/
noncomputable def cov (env : PEnv) (vs : List Nat) (e : V × Bw) : V × Bw := match e with
  | (v, .b i []) => if vs.contains i then (match env.getD i none with | some s => (v, .t s) | none => (v, .b i [])) else (v, .b i [])
  | e => e
/-- what stands in the slots that are covered -/
noncomputable def kept (σ : L2.St) (env : PEnv) (vs : List Nat) : List (V × Bw) := vs.filterMap fun i => match σ[i]?, env.getD i none with
  | some (some v), some s => some (v, .t s)
  | _, _ => none
section
variable {K : PySem.W.Frag} {H0 M0 H M : Hp} {σ : L2.St} {env : PEnv} {T : List (V × Bw)} {E : List (V × Sl)} {vs : List Nat}
theorem shN_sh {i : Nat} {s : Sl} (h : shN env i = true) (e : env.getD i none = some s) : ∃ p, s = .sh p := by
  unfold shN at h
  rw [e] at h
  cases s with
  | sh p => exact ⟨p, rfl⟩
  | _ => cases h
theorem kept_sh (hsh : vs.all (shN env) = true) : ∀ e ∈ kept σ env vs, ∃ p i, e.2 = .t (.sh p) ∧ i ∈ vs ∧ σ[i]? = some (some e.1) ∧ env.getD i none = some (.sh p) := fun e he => by
  obtain ⟨i, hi, q⟩ := List.mem_filterMap.mp he
  cases h1 : σ[i]? with
  | none => rw [h1] at q; cases q
  | some ov =>
    cases ov with
    | none => rw [h1] at q; cases q
    | some v =>
      cases h2 : env.getD i none with
      | none => rw [h1, h2] at q; cases q
      | some s =>
        rw [h1, h2] at q
        cases q
        obtain ⟨p, rfl⟩ := shN_sh (List.all_eq_true.mp hsh i hi) h2
        exact ⟨p, i, rfl, hi, h1, h2⟩
theorem pushSh : ∀ {Y : List (V × Bw)} {T : List (V × Bw)}, SAx K H0 M0 σ env T H E M → (∀ e ∈ Y, ∃ v p, e = (v, Bw.t (.sh p)) ∧ Rep K M v p) → SAx K H0 M0 σ env (T ++ Y) H E M
  | [], T, h, _ => by simpa using h
  | e :: Y, T, h, k => by
    obtain ⟨v, p, rfl, r⟩ := k e List.mem_cons_self
    have := pushSh (Y := Y) (h.pushX r) fun e he => k e (List.mem_cons_of_mem _ he)
    simpa using this
theorem cov_covered {v : V} {i : Nat} {p : PV} (hi : vs.contains i = true) (e : env.getD i none = some (.sh p)) : cov env vs (v, .b i []) = (v, .t (.sh p)) := by
  simp only [cov, hi, if_true, e]
theorem cov_free {v : V} {i : Nat} (hi : ¬ vs.contains i = true) : cov env vs (v, .b i []) = (v, .b i []) := by
  simp only [cov, if_neg hi]
/-- ahead of the block -/
theorem SA.cover (ro : Roots T) (h : SA K H0 M0 σ env T H) (hsh : vs.all (shN env) = true) : SA K H0 M0 σ env (T.map (cov env vs) ++ kept σ env vs) H ∧ (∀ i ∈ vs, ∀ v π, (v, Bw.b i π) ∉ T.map (cov env vs) ++ kept σ env vs) ∧ Roots (T.map (cov env vs) ++ kept σ env vs) := by
  obtain ⟨E, M, sx⟩ := h
  have hslot : ∀ (i : Nat) (v : V) (p : PV), σ[i]? = some (some v) → env.getD i none = some (.sh p) → Rep K M v p := fun i v p h1 h2 => by
    obtain ⟨v', g1, A, t⟩ := sx.var h2
    rw [h1] at g1; cases g1
    cases t with
    | sh r => exact r
  have step : ∀ {T : List (V × Bw)}, Roots T → SAx K H0 M0 σ env T H E M → SAx K H0 M0 σ env (T.map (cov env vs)) H E M := by
    intro T ro sx
    have key : ∀ {T : List (V × Bw)}, Roots T → (∀ v i, (v, Bw.b i []) ∈ T → σ[i]? = some (some v) ∧ (env.getD i none).isSome) → ∃ Y, (∀ e ∈ Y, ∃ v p, e = (v, Bw.t (.sh p)) ∧ Rep K M v p) ∧ (tents (T.map (cov env vs))).Perm (tents (T ++ Y)) ∧
        ∀ v i π, (v, Bw.b i π) ∈ T.map (cov env vs) → (v, Bw.b i π) ∈ T := by
      intro T
      induction T with
      | nil => intro _ _; exact ⟨[], (fun _ h => by cases h), by simp, fun _ _ _ h => by cases h⟩
      | cons e T ih =>
        intro ro hb
        obtain ⟨Y, hY, pY, bY⟩ := ih (fun v i π hm => ro v i π (List.mem_cons_of_mem _ hm)) (fun v i hm => hb v i (List.mem_cons_of_mem _ hm))
        obtain ⟨v, x⟩ := e
        cases x with
        | t s =>
          refine ⟨Y, hY, ?_, fun w i π hm => ?_⟩
          · show ((v, s) :: tents (T.map (cov env vs))).Perm ((v, s) :: tents (T ++ Y))
            exact pY.cons _
          · rcases List.mem_cons.mp hm with z | z
            · cases z
            · exact List.mem_cons_of_mem _ (bY w i π z)
        | b i π =>
          cases ro v i π List.mem_cons_self
          obtain ⟨h1, h2⟩ := hb v i List.mem_cons_self
          by_cases hi : vs.contains i = true
          · cases q : env.getD i none with
            | none => rw [q] at h2; cases h2
            | some s =>
              obtain ⟨p, rfl⟩ := shN_sh (List.all_eq_true.mp hsh i (by rwa [List.contains_iff_mem] at hi)) q
              refine ⟨Y ++ [(v, .t (.sh p))], fun e he => ?_, ?_, fun w j ρ hm => ?_⟩
              · rcases List.mem_append.mp he with z | z
                · exact hY e z
                · simp at z; subst z; exact ⟨v, p, rfl, hslot i v p h1 q⟩
              · rw [List.map_cons, cov_covered hi q]
                show ((v, Sl.sh p) :: tents (T.map (cov env vs))).Perm (tents (T ++ (Y ++ [(v, .t (.sh p))])))
                rw [← List.append_assoc, tents_append]
                exact (pY.cons _).trans (List.perm_append_comm (l₁ := [(v, Sl.sh p)]))
              · rw [List.map_cons, cov_covered hi q] at hm
                rcases List.mem_cons.mp hm with z | z
                · cases z
                · exact List.mem_cons_of_mem _ (bY w j ρ z)
          · refine ⟨Y, hY, ?_, fun w j ρ hm => ?_⟩
            · rw [List.map_cons, cov_free hi]
              exact pY
            · rw [List.map_cons, cov_free hi] at hm
              rcases List.mem_cons.mp hm with z | z
              · cases z; exact List.mem_cons_self
              · exact List.mem_cons_of_mem _ (bY w j ρ z)
    obtain ⟨Y, hY, pY, bY⟩ := key ro fun v i hm => by
      obtain ⟨u0, u1, u2, u3⟩ := sx.bor v i [] hm
      cases u2
      exact ⟨u1, u3⟩
    have := pushSh sx hY
    exact ⟨sx.lv, this.hyp.perm (List.Perm.append_left E pY.symm), fun v i π hm => sx.bor v i π (bY v i π hm)⟩
  have hb : ∀ v i π, (v, Bw.b i π) ∈ T.map (cov env vs) ++ kept σ env vs → (v, Bw.b i π) ∈ T ∧ i ∉ vs := fun v i π hm => by
    rcases List.mem_append.mp hm with z | z
    · obtain ⟨⟨v', x'⟩, hx', q'⟩ := List.mem_map.mp z
      cases x' with
      | t s' => cases q'
      | b j ρ =>
        cases ro v' j ρ hx'
        by_cases hi : vs.contains j = true
        · cases q : env.getD j none with
          | none =>
            obtain ⟨_, _, _, u3⟩ := sx.bor v' j [] hx'
            rw [q] at u3; cases u3
          | some s =>
            obtain ⟨p, rfl⟩ := shN_sh (List.all_eq_true.mp hsh j (by rwa [List.contains_iff_mem] at hi)) q
            rw [cov_covered hi q] at q'
            cases q'
        · rw [cov_free hi] at q'
          cases q'
          exact ⟨hx', fun z => hi (List.contains_iff_mem.mpr z)⟩
    · obtain ⟨p, j, h1, _⟩ := kept_sh hsh _ z
      cases h1
  refine ⟨⟨E, M, pushSh (step ro sx) fun e he => ?_⟩, fun i hi v π hm => (hb v i π hm).2 hi, fun v i π hm => ro v i π (hb v i π hm).1⟩
  obtain ⟨p, i, h1, h2, h3, h4⟩ := kept_sh hsh _ he
  exact ⟨e.1, p, Prod.ext rfl h1, hslot i e.1 p h3 h4⟩
theorem backE_length {old : PEnv} : ∀ {vs : List Nat} {env : PEnv}, (backE old vs env).length = env.length
  | [], _ => rfl
  | v :: vs, env => by unfold backE; rw [List.length_set]; exact backE_length
theorem backE_in {old : PEnv} : ∀ {vs : List Nat} {env : PEnv} {i : Nat}, i ∈ vs → i < env.length → (backE old vs env).getD i none = old.getD i none
  | v :: vs, env, i, h, hl => by
    unfold backE
    by_cases e : v = i
    · subst e
      simp [List.getD_eq_getElem?_getD, backE_length, hl]
    · rw [getD_set_ne e]
      exact backE_in (by simpa [Ne.symm e] using h) hl
/-- behind the block: what the slots held -/
theorem SA.back {old : PEnv} {A : List (V × Bw)} (hsh : vs.all (shN old) = true) (hk : ∀ i ∈ vs, ∀ p, old.getD i none = some (.sh p) → ∃ v, σ[i]? = some (some v) ∧ (v, Bw.t (.sh p)) ∈ A) :
    ∀ (ws : List Nat), (∀ i ∈ ws, i ∈ vs) → SA K H0 M0 σ env A H → (∀ i ∈ ws, ∀ v π, (v, Bw.b i π) ∉ A) → SA K H0 M0 σ (backE old ws env) A H
  | [], _, h, _ => h
  | i :: ws, hw, h, hb => by
    have ih := SA.back hsh hk ws (fun j hj => hw j (List.mem_cons_of_mem _ hj)) h fun j hj => hb j (List.mem_cons_of_mem _ hj)
    unfold backE
    cases q : old.getD i none with
    | none =>
      have := ih.wipe1 (i := i) (hb i List.mem_cons_self) (σ.getD i none)
      by_cases hl : i < σ.length
      · have e : σ.set i (σ.getD i none) = σ := setV_same (by rw [List.getD_eq_getElem?_getD, List.getElem?_eq_getElem hl]; rfl)
        rw [e] at this
        exact this
      · rw [List.set_eq_of_length_le (by omega)] at this
        exact this
    | some s =>
      obtain ⟨p, rfl⟩ := shN_sh (List.all_eq_true.mp hsh i (hw i List.mem_cons_self)) q
      obtain ⟨v, h1, h2⟩ := hk i (hw i List.mem_cons_self) p q
      obtain ⟨E, M, sx⟩ := ih
      obtain ⟨⟨A', t'⟩, _⟩ := sx.get (s := .sh p) h2 rfl
      have r : Rep K M v p := by cases t' with
        | sh r => exact r
      have := SA.set' (sx.push r) (hb i List.mem_cons_self)
      rw [setV_same h1] at this
      exact this
/-- .. and what was lent -/
theorem SA.uncover {env0 : PEnv} {B : List (V × Bw)} (ro : Roots T) (h0 : ∀ v i, (v, Bw.b i []) ∈ T → σ[i]? = some (some v) ∧ (env0.getD i none).isSome) (h : SA K H0 M0 σ env (T.map (cov env0 vs) ++ B) H)
    (he : ∀ i ∈ vs, (env0.getD i none).isSome → (env.getD i none).isSome) : SA K H0 M0 σ env (T ++ B) H := by
  obtain ⟨E, M, sx⟩ := h
  have sub : ∀ {T : List (V × Bw)}, Roots T → List.Sublist (tents T) (tents (T.map (cov env0 vs))) := by
    intro T
    induction T with
    | nil => intro _; exact .refl _
    | cons e T ih =>
      intro ro
      have ih := ih fun v i π hm => ro v i π (List.mem_cons_of_mem _ hm)
      obtain ⟨v, x⟩ := e
      rw [List.map_cons]
      cases x with
      | t s => exact ih.cons_cons _
      | b i π =>
        cases ro v i π List.mem_cons_self
        show List.Sublist (tents T) (tents (cov env0 vs (v, .b i []) :: T.map (cov env0 vs)))
        cases hq : cov env0 vs (v, .b i []) with
        | mk w y =>
          cases y with
          | t s => exact ih.trans (List.sublist_cons_self _ _)
          | b j ρ => exact ih
  refine ⟨E, M, sx.lv, sx.hyp.sublist (List.Sublist.append_left ?_ E), fun v i π hm => ?_⟩
  · rw [tents_append, tents_append]
    exact List.Sublist.append_right (sub ro) _
  · rcases List.mem_append.mp hm with z | z
    · cases ro v i π z
      obtain ⟨g1, g2⟩ := h0 v i z
      refine ⟨v, g1, .nil, ?_⟩
      by_cases hi : i ∈ vs
      · exact he i hi g2
      · have hi' : ¬ vs.contains i = true := by rw [List.contains_iff_mem]; exact hi
        obtain ⟨_, _, _, u3⟩ := sx.bor v i [] (List.mem_append_left _ (List.mem_map.mpr ⟨_, z, cov_free hi'⟩))
        exact u3
    · exact sx.bor v i π (List.mem_append_right _ z)
end
theorem lc_okX {K : PySem.W.Frag} {t : Tg} {own : List (Str × Nat)} {fc : PEnv → Option (Bool × PEnv)} {fe : PEnv → Option (Bw × PEnv)} (hown : ∀ i ∈ tgSl t, i ∈ own.map (·.2)) {σ : L2.St} {H : Hp} {Q : VK}
    {cc ce : Bool} {H0 M0 : Hp} {T : List (V × Bw)} {r1 : List PV × PEnv} {q : List PV × PEnv} (ro : Roots T) (hsh : (own.map (·.2)).all (shN r1.2) = true) (e2 : compL (compStep t (own.map (·.2)) fc fe) r1.1 (wipeE (own.map (·.2)) r1.2) [] = some q)
    (k : ∀ v H', SA K H0 M0 σ (backE r1.2 (own.map (·.2)) (wipeE (own.map (·.2)) q.2)) (T ++ [(v, .t (.own q.1))]) H' → Q v H') {J : It} {H1 : Hp} {S : List (V × Bw)} (nb : noB [] S) (sa1 : SA K H0 M0 σ r1.2 (T ++ S) H1) (wk : Walks K H0 M0 S r1.1 J) :
    tLc (fun _ _ R => R J H1) (gT K t) (tTs K cc fc) (tE K ce fe) (own.map (·.2)) σ H Q := by
  intro D hD
  generalize hvs : own.map (·.2) = vs at *
  have roS : Roots (T ++ S) := ro.append fun v i π hm => absurd (nb v i π hm) (by simp)
  obtain ⟨sac, hfree, roA⟩ := sa1.cover roS hsh
  generalize hA : (T ++ S).map (cov r1.2 vs) ++ kept σ r1.2 vs = A at sac hfree roA
  have hSA : ∀ e ∈ S, e ∈ A := fun e he => by
    rw [← hA]
    refine List.mem_append_left _ (List.mem_map.mpr ⟨e, List.mem_append_right _ he, ?_⟩)
    obtain ⟨v, x⟩ := e
    cases x with
    | t s => rfl
    | b i π => exact absurd (nb v i π he) (by simp)
  have hfree2 : ∀ (acc : List PV), ∀ i ∈ vs, ∀ v π, (v, Bw.b i π) ∉ A ++ [(V.ref D, Bw.t (.own acc))] := fun acc i hi v π hm => hfree i hi v π (mem_snoc_t hm)
  have ro2 : ∀ (acc : List PV), Roots (A ++ [(V.ref D, Bw.t (.own acc))]) := fun acc => roA.append (Roots.one _ _)
  have sa2 : SA K H0 M0 (wipe σ vs) (wipeE vs r1.2) (A ++ [(.ref D, .t (.own []))]) (upd H1 D (.lst [])) := by
    obtain ⟨E, M, sx⟩ := sac.wipes hfree
    exact sx.lst hD .nil
  refine ⟨fun i m H' => m = r1.1.length - i ∧ i ≤ r1.1.length ∧ ∃ env' acc, SA K H0 M0 (wipe σ vs) env' (A ++ [(.ref D, .t (.own acc))]) H' ∧ compL (compStep t vs fc fe) (r1.1.drop i) env' acc = some q, ⟨r1.1.length, by simp, Nat.zero_le _, _, [], sa2, by simpa using e2⟩, ?_⟩
  rintro i m H2 ⟨rfl, hi, env', acc, sa3, ec⟩
  have wk' := wk i _ _ _ _ (fun e he => List.mem_append_left _ (hSA e he)) sa3
  by_cases hlt : i < r1.1.length
  · have hd : r1.1.drop i = r1.1[i] :: r1.1.drop (i + 1) := List.drop_eq_getElem_cons hlt
    rw [hd] at ec
    obtain ⟨st, es, ec⟩ := ob ec
    obtain ⟨go, yl⟩ := wk'.1 r1.1[i] (List.getElem?_eq_getElem hlt)
    refine .inr ⟨go, fun H' => i + 1 ≤ r1.1.length ∧ ∃ env' acc, SA K H0 M0 (wipe σ vs) env' (A ++ [(.ref D, .t (.own acc))]) H' ∧ compL (compStep t vs fc fe) (r1.1.drop (i + 1)) env' acc = some q,
      fun H' ⟨h1, h2⟩ => ⟨_, by omega, rfl, h1, h2⟩, fun x H' yy => ?_⟩
    have sa4 := yl x H' yy
    obtain ⟨b1, eb, es⟩ := ob es
    refine bind_ok eb sa4 (fun i hi => hfree2 acc i (hvs ▸ hown i hi)) fun σ2 sa5 l2 g2 => ?_
    have hw : wipe σ2 vs = wipe σ vs := by
      rw [← wipe_wipe σ vs]
      refine wipe_eq l2 fun j hj => g2 j fun z => hj (hvs ▸ hown j z)
    refine ⟨hw, ?_⟩
    obtain ⟨c, ecc, es⟩ := ob es
    refine ⟨H0, M0, b1, _, c, ecc, sa5, fun _ => ro2 acc, fun H3 sa6 => ?_⟩
    obtain ⟨cb, ce'⟩ := c
    cases cb with
    | true =>
      rw [if_pos rfl] at es ⊢
      obtain ⟨xe, ee, es⟩ := ob es
      obtain ⟨y, ey, rfl⟩ := om es
      refine ⟨H0, M0, ce', _, xe, ee, sa6, fun _ => ro2 acc, fun v H4 sa7 => ?_⟩
      have sa8 := SA.fix (B := []) sa7 ey
      have sa9 : SA K H0 M0 σ2 y.2 (A ++ (.ref D, .t (.own acc)) :: [(v, .t (.sh y.1))]) H4 := by simpa using sa8
      obtain ⟨E, M, sx⟩ := sa9
      have so : SlOk K H0 M H4 (.ref D) (.own acc) := sx.get (x := .t (.own acc)) (by simp) rfl
      obtain ⟨⟨Aso, tso⟩, _⟩ := so
      obtain ⟨ws, h1, h2, h3, h4⟩ : ∃ ws, M D = none ∧ H0 D = none ∧ H4 D = some (.lst ws) ∧ Reps K M ws acc := by
        cases tso with
        | own m h0 hh r => exact ⟨_, m, h0, hh, r⟩
      obtain ⟨⟨Arv, trv⟩, _⟩ := sx.get (v := v) (s := .sh y.1) (x := .t (.sh y.1)) (by simp) rfl
      have rv : Rep K M v y.1 := by cases trv with
        | sh r => exact r
      have hlen : acc.length < lim := by
        refine Nat.lt_of_not_le fun z => ?_
        dsimp only at ec
        rw [if_neg (by omega)] at ec
        cases ec
      dsimp only at ec
      rw [if_pos hlen] at ec
      refine ⟨ws, h3, by rw [h4.length]; have := lim_eq; omega, hlt, wipeE vs y.2, acc ++ [y.1], ?_, ec⟩
      have sa10 : SA K H0 M0 σ2 y.2 (A ++ (.ref D, .t (.own (acc ++ [y.1]))) :: [(v, .t (.sh y.1))]) (upd H4 D (.lst (ws ++ [v]))) := ⟨E, M, sx.writeT (roA.append (Roots.one _ _)) (h4.snoc rv)⟩
      have sa11 : SA K H0 M0 σ2 y.2 (A ++ [(.ref D, .t (.own (acc ++ [y.1])))]) (upd H4 D (.lst (ws ++ [v]))) := SA.left (A := [(v, .t (.sh y.1))]) (by simpa using sa10)
      have := sa11.wipes (hfree2 _)
      rw [hw] at this
      exact this
    | false =>
      rw [if_neg Bool.false_ne_true] at es ⊢
      cases es
      refine ⟨hlt, wipeE vs ce', acc, ?_, ec⟩
      have := sa6.wipes (hfree2 _)
      rw [hw] at this
      exact this
  · have e0 : i = r1.1.length := by omega
    subst e0
    rw [List.drop_length] at ec
    simp only [compL, Option.some.injEq] at ec
    refine .inl ⟨wk'.2 (Nat.le_refl _), ?_⟩
    refine k _ _ ?_
    have s1 := sa3.unwipe (hfree2 acc)
    have hkept : ∀ i ∈ vs, ∀ p, r1.2.getD i none = some (.sh p) → ∃ v, σ[i]? = some (some v) ∧ (v, Bw.t (.sh p)) ∈ A ++ [(V.ref D, Bw.t (.own acc))] := fun i hi p hp => by
      obtain ⟨E, M, sx⟩ := id sa1
      obtain ⟨v, g1, _⟩ := sx.var hp
      refine ⟨v, g1, List.mem_append_left _ ?_⟩
      rw [← hA]
      refine List.mem_append_right _ (List.mem_filterMap.mpr ⟨i, hi, ?_⟩)
      rw [g1, hp]
    have s2 := SA.back (old := r1.2) hsh hkept vs (fun _ h => h) s1 (hfree2 acc)
    rw [← hA, List.append_assoc] at s2
    have s3 := SA.uncover (T := T ++ S) roS (fun v i hm => by
        obtain ⟨E, M, sx⟩ := id sa1
        obtain ⟨u0, u1, u2, u3⟩ := sx.bor v i [] hm
        cases u2
        exact ⟨u1, u3⟩) s2 (fun i hi hs => by
        rw [backE_in hi]
        · exact hs
        · have l1 := s1.length
          have l2 := sa1.length
          rw [← l1, l2]
          refine Nat.lt_of_not_le fun z => ?_
          rw [List.getD_eq_getElem?_getD, List.getElem?_eq_none z] at hs
          cases hs)
    rw [← ec]
    have s4 : SA K H0 M0 σ (backE r1.2 vs (wipeE vs env')) (T ++ (S ++ kept σ r1.2 vs) ++ [(V.ref D, Bw.t (.own acc))]) H2 := by simpa using s3
    exact s4.mid
theorem lc_ok {K : PySem.W.Frag} {t : Tg} {own : List (Str × Nat)} {fi : PEnv → Option (List PV × PEnv)} {fc : PEnv → Option (Bool × PEnv)} {fe : PEnv → Option (Bw × PEnv)} (hown : ∀ i ∈ tgSl t, i ∈ own.map (·.2)) {σ : L2.St} {H : Hp} {Q : VK}
    {ci cc ce : Bool} (q : tE K false (compF t own fi fc fe) σ H Q) : tLc (tIs K ci fi) (gT K t) (tTs K cc fc) (tE K ce fe) (own.map (·.2)) σ H Q := by
  obtain ⟨H0, M0, env, T, r', e, sa, ro, k⟩ := q
  have ro := ro rfl
  obtain ⟨r1, e1, e⟩ := ob e
  split at e
  · rename_i hsh
    obtain ⟨q, e2, rfl⟩ := om e
    refine ⟨H0, M0, env, T, r1, e1, sa, fun _ => ro, fun J H1 S nb sa1 wk => ?_⟩
    exact lc_okX (H := H) hown ro hsh e2 k nb sa1 wk
  · cases e
section
variable {K : PySem.W.Frag} {H0 M0 H M : Hp} {σ : L2.St} {env : PEnv} {T A : List (V × Bw)} {E : List (V × Sl)}
theorem Trs.snoc : ∀ {vs : List V} {ss : List Sl} {As : List Addr} {v : V} {s : Sl} {B : List Addr}, Trs K H0 M H vs ss As → Tr K H0 M H v s B → Trs K H0 M H (vs ++ [v]) (ss ++ [s]) (As ++ B)
  | _, _, _, v, s, B, .nil, t => by
    have := Trs.cons t .nil
    rw [List.append_nil] at this
    exact this
  | _, _, _, v, s, B, .cons h r, t => by
    rw [List.append_assoc]
    exact .cons h (Trs.snoc r t)
end
section
variable {X : Cx} {elt tg iter : Expr} {ifs : List Expr} {scope : Scope} {own : List (Str × Nat)} {pos : Pos} {t : Tg} {fi : PEnv → Option (List PV × PEnv)} {fc : PEnv → Option (Bool × PEnv)} {fe : PEnv → Option (Bw × PEnv)}
theorem se_comp {ci cc ce : Bool} (hown : ∀ i ∈ tgSl t, i ∈ own.map (·.2)) (hc : X.calm = true) (hN : X.N.Nodup) (hi : PI X tg iter (tIs X.K ci fi)) (ok : BlkOk X.N X.env.scope scope own)
    (hg : ∀ (s : Shared) (H : Hp) (C : Addr) (cl : List (Str × Addr)) (fp : List Addr), PG (X.blk s H scope (compEnvC scope cl C X.env) fp) tg (gT X.K t)) (ht : ∀ (s : Shared) (H : Hp) (C : Addr) (cl : List (Str × Addr)) (fp : List Addr), PTs (X.blk s H scope (compEnvC scope cl C X.env) fp) ifs (tTs X.K cc fc))
    (he : ∀ (s : Shared) (H : Hp) (C : Addr) (cl : List (Str × Addr)) (fp : List Addr), PE (X.blk s H scope (compEnvC scope cl C X.env) fp) elt (tE X.K ce fe)) (hs : ∀ x, foldedSetIterable iter X.env x = pure x) :
    PE X (.ListComp elt [⟨tg, iter, ifs, 0⟩] scope pos) (tE X.K false (compF t own fi fc fe)) :=
  PE_imp (pe_lc hc hN hi ok hg ht he hs) fun σ H Q q => lc_ok hown q
end
theorem pts_yes {X : Cx} {cf : Bool} : PTs X [] (tTs X.K cf fun env => some (true, env)) := ⟨fun pins s σ H Q I q => by
  obtain ⟨H0, M0, env, T, r', e, sa, ro, k⟩ := q
  cases e
  exact pts_nil.run pins s σ H Q I (k _ sa)⟩

/-! ### tests -/
section
variable {X : Cx} {a b : Expr} {pos : Pos} {f : PEnv → Option (Bw × PEnv)} {ft gt : PEnv → Option (Bool × PEnv)} {rest : List Expr} {cf cg : Bool}
theorem st_val (ha : PE X a (tE X.K cf f)) (he : ∀ whole, isTrue a X.env whole = (do let v ← whole; standAt a.pos; holding [v] (truthy v))) :
    PT X a (tTs X.K cf fun env => (f env).bind fun r => (pvb r.2 r.1).bind fun x => (truth x).map fun b => (b, r.2)) := by
  refine PT_imp (pt_truth ha he) fun σ H Q q => ?_
  obtain ⟨H0, M0, env, T, r', e, sa, ro, k⟩ := q
  obtain ⟨r1, e1, e⟩ := ob e
  obtain ⟨p1, e2, e⟩ := ob e
  obtain ⟨z, e3, rfl⟩ := om e
  refine ⟨H0, M0, env, T, r1, e1, sa, ro, fun v H1 sa1 => ?_⟩
  obtain ⟨E, M, sx⟩ := id sa1
  obtain ⟨s1, g1, rfl⟩ := pvb_sl e2
  exact ⟨z, tru_of sx (sx.get (by simp) g1) e3, k _ sa1.left⟩
theorem PW_imp {e : Expr} {t t' : TT} (h : PW X e t) (i : ∀ σ H Q, t' σ H Q → t σ H Q) : PW X e t' := ⟨fun w pins s σ H Q I q => h.run w pins s σ H Q I (i _ _ _ q)⟩
theorem st_and (ha : PT X a (tTs X.K cf ft)) (hb : PW X (.BoolOp .And (b :: rest) pos) (tTs X.K cg gt)) : PW X (.BoolOp .And (a :: b :: rest) pos) (tTs X.K (cf && cg) fun env => (ft env).bind fun r => if r.1 then gt r.2 else some (false, r.2)) := by
  refine PW_imp (pw_and ha hb) fun σ H Q q => ?_
  obtain ⟨H0, M0, env, T, r', e, sa, ro, k⟩ := q
  obtain ⟨r1, e1, e⟩ := ob e
  refine ⟨H0, M0, env, T, r1, e1, sa, ro_l ro, fun H1 sa1 => ?_⟩
  obtain ⟨b1, env1⟩ := r1
  cases b1 with
  | true => exact ⟨H0, M0, env1, T, r', e, sa1, ro_r ro, k⟩
  | false => cases e; exact k _ sa1
theorem st_or (ha : PT X a (tTs X.K cf ft)) (hb : PW X (.BoolOp .Or (b :: rest) pos) (tTs X.K cg gt)) : PW X (.BoolOp .Or (a :: b :: rest) pos) (tTs X.K (cf && cg) fun env => (ft env).bind fun r => if r.1 then some (true, r.2) else gt r.2) := by
  refine PW_imp (pw_or ha hb) fun σ H Q q => ?_
  obtain ⟨H0, M0, env, T, r', e, sa, ro, k⟩ := q
  obtain ⟨r1, e1, e⟩ := ob e
  refine ⟨H0, M0, env, T, r1, e1, sa, ro_l ro, fun H1 sa1 => ?_⟩
  obtain ⟨b1, env1⟩ := r1
  cases b1 with
  | true => cases e; exact k _ sa1
  | false => exact ⟨H0, M0, env1, T, r', e, sa1, ro_r ro, k⟩
theorem st_not (ha : PT X a (tTs X.K cf ft)) : PT X (.UnaryOp .Not a pos) (tTs X.K cf fun env => (ft env).map fun r => (!r.1, r.2)) := by
  refine PT_imp (pt_not ha) fun σ H Q q => ?_
  obtain ⟨H0, M0, env, T, r', e, sa, ro, k⟩ := q
  obtain ⟨r1, e1, rfl⟩ := om e
  exact ⟨H0, M0, env, T, r1, e1, sa, ro, fun H1 sa1 => k _ sa1⟩
end

end Me
/-! Me12: statements. -/
namespace Me
open PySem PySem.Spec PyProof.Rows L2
open NdefX (TabsN NTab TabN)
open LamX (CodeO TabB ExtN)
variable [Reg]

/-! ### statements -/
noncomputable def FlOk (K : PySem.W.Frag) (H0 M0 : Hp) (T : List (V × Bw)) (D : Ends) : Fl → Prop
  | .next e => ∀ σ H, SA K H0 M0 σ e T H → D.nx σ H
  | .brk e => ∀ σ H, SA K H0 M0 σ e T H → D.bk σ H
  | .ret s e => ∀ v σ H, SA K H0 M0 σ e (T ++ [(v, .t s)]) H → D.rt v H
/-- L: the slots that were lent; they are never stored -/
noncomputable def tSs (K : PySem.W.Frag) (L : List Nat) (f : PEnv → Option Fl) : TS := fun D σ H => ∃ H0 M0 env T r, f env = some r ∧ (noB L T ∧ Roots T) ∧ SA K H0 M0 σ env T H ∧ FlOk K H0 M0 T D r
section
variable {X : Cx} {e c : Expr} {st : Stmt} {sts body : List Stmt} {pos : Pos} {f : PEnv → Option (Bw × PEnv)} {ft : PEnv → Option (Bool × PEnv)} {fs gs : PEnv → Option Fl} {L : List Nat} {cf : Bool}
theorem ss_nil : PSs X [] (tSs X.K L fun env => some (.next env)) := by
  refine PSs_imp pss_nil fun D σ H q => ?_
  obtain ⟨H0, M0, env, T, r', e, ⟨nb, ro⟩, sa, k⟩ := q
  cases e
  exact k σ H sa
theorem ss_cons (h1 : PS X st (tSs X.K L fs)) (h2 : PSs X sts (tSs X.K L gs)) : PSs X (st :: sts) (tSs X.K L fun env => (fs env).bind fun r => match r with | .next e => gs e | .ret v e => some (.ret v e) | .brk e => some (.brk e)) := by
  refine PSs_imp (pss_cons h1 h2) fun D σ H q => ?_
  obtain ⟨H0, M0, env, T, r', e, ⟨nb, ro⟩, sa, k⟩ := q
  obtain ⟨r1, e1, e⟩ := ob e
  refine ⟨H0, M0, env, T, r1, e1, ⟨nb, ro⟩, sa, ?_⟩
  cases r1 with
  | next e2 => exact fun σ' H' sa' => ⟨H0, M0, e2, T, r', e, ⟨nb, ro⟩, sa', k⟩
  | ret v e2 => cases e; exact k
  | brk e2 => cases e; exact k
theorem ss_pass : PS X (.Pass pos) (tSs X.K L fun env => some (.next env)) := by
  refine PS_imp ps_pass fun D σ H q => ?_
  obtain ⟨H0, M0, env, T, r', e, ⟨nb, ro⟩, sa, k⟩ := q
  cases e
  exact k σ H sa
theorem ss_brk : PS X (.Break pos) (tSs X.K L fun env => some (.brk env)) := by
  refine PS_imp ps_break fun D σ H q => ?_
  obtain ⟨H0, M0, env, T, r', e, ⟨nb, ro⟩, sa, k⟩ := q
  cases e
  exact k σ H sa
theorem ss_expr (he : PE X e (tE X.K cf f)) (hs : swapsWith e none pos.line X.env = pure false) : PS X (.Expr e pos) (tSs X.K L fun env => (f env).map fun r => .next r.2) := by
  refine PS_imp (ps_expr he hs) fun D σ H q => ?_
  obtain ⟨H0, M0, env, T, r', e, ⟨nb, ro⟩, sa, k⟩ := q
  obtain ⟨r1, e1, rfl⟩ := om e
  exact ⟨H0, M0, env, T, r1, e1, sa, fun _ => ro, fun v H' sa' => k σ H' sa'.left⟩
theorem ss_ret {l : List Nat} (hl : l = L) (he : PE X e (tE X.K cf f)) : PS X (.Return (some e) pos) (tSs X.K L fun env => (f env).bind fun r => (Me.fixR l r.2 r.1).map fun q => .ret q.1 q.2) := by
  refine PS_imp (ps_ret he) fun D σ H q => ?_
  obtain ⟨H0, M0, env, T, r', e, ⟨nb, ro⟩, sa, k⟩ := q
  obtain ⟨r1, e1, e⟩ := ob e
  obtain ⟨q, e2, rfl⟩ := om e
  subst hl
  exact ⟨H0, M0, env, T, r1, e1, sa, fun _ => ro, fun v H' sa' => k v σ H' (SA.fixR sa' e2 nb)⟩
theorem ss_retN : PS X (.Return none pos) (tSs X.K L fun env => some (.ret (.sh .non) env)) := by
  refine PS_imp ps_retN fun D σ H q => ?_
  obtain ⟨H0, M0, env, T, r', e, ⟨nb, ro⟩, sa, k⟩ := q
  cases e
  obtain ⟨E, M, sx⟩ := sa
  exact k .non σ H (sx.push .non)
theorem ss_if (hc : PT X c (tTs X.K cf ft)) (ha : PSs X sts (tSs X.K L fs)) (hb : PSs X body (tSs X.K L gs)) : PS X (.If c sts body pos) (tSs X.K L fun env => (ft env).bind fun r => if r.1 then fs r.2 else gs r.2) := by
  refine PS_imp (ps_if hc ha hb) fun D σ H q => ?_
  obtain ⟨H0, M0, env, T, r', e, ⟨nb, ro⟩, sa, k⟩ := q
  obtain ⟨r1, e1, e⟩ := ob e
  refine ⟨H0, M0, env, T, r1, e1, sa, fun _ => ro, fun H1 sa1 => ?_⟩
  obtain ⟨b1, env1⟩ := r1
  cases b1 with
  | true => exact ⟨H0, M0, env1, T, r', e, ⟨nb, ro⟩, sa1, k⟩
  | false => exact ⟨H0, M0, env1, T, r', e, ⟨nb, ro⟩, sa1, k⟩
/-- name = e, whatever e's rule -/
theorem set_core {i : Nat} (hi : i ∉ L) {σ : L2.St} {H : Hp} {D : Ends} (q : tSs X.K L (fun env => (f env).bind fun r => (Me.fixO r.2 r.1).map fun q => .next (q.2.set i (some q.1))) D σ H) : tE X.K cf f σ H fun x H1 => D.nx (σ.set i (some x)) H1 := by
  obtain ⟨H0, M0, env, T, r', e, ⟨nb, ro⟩, sa, k⟩ := q
  obtain ⟨r1, e1, e⟩ := ob e
  obtain ⟨q, e2, rfl⟩ := om e
  refine ⟨H0, M0, env, T, r1, e1, sa, fun _ => ro, fun v H' sa' => ?_⟩
  exact k _ _ (SA.set' (SA.fixO (B := []) sa' e2) (nb.not hi))
theorem ss_set {i : Nat} (hi : i ∉ L) {tg : Expr} (he : PE X e (tE X.K cf f)) (hg : PG X tg (gName i)) (hs : swapsWithSole [tg] e pos.line X.env = pure false) (hw : swappedStores [tg] e X.env = pure none) (h1 : (assignEach [tg] X.env).map (·.2) = [assign tg X.env]) :
    PS X (.Assign [tg] e pos) (tSs X.K L fun env => (f env).bind fun r => (Me.fixO r.2 r.1).map fun q => .next (q.2.set i (some q.1))) :=
  PS_imp (ps_asg he hg hs hw h1) fun D σ H q => set_core hi q
/-- for -/
theorem ss_for {tg iter : Expr} {t : Tg} {fi : PEnv → Option (List PV × PEnv)} (hp : PassesOwn (model X.prog X.w) X.A X.env X.xe) (hc : X.calm = true) (hi : PI X tg iter (tIs X.K cf fi)) (ht : ∀ i ∈ tgSl t, i ∉ L) (hg : PG X tg (gT X.K t)) (hb : PSs X body (tSs X.K L fs)) (hs : ∀ x, foldedSetIterable iter X.env x = pure x) :
    PS X (.For tg iter body [] pos) (tSs X.K L fun env => (fi env).bind fun r => forL (fun p e => (bindT t p e).bind fun e1 => fs e1) r.1 r.2) := by
  refine PS_imp (ps_for hp hc hi hg hb hs) fun D σ H q => ?_
  obtain ⟨H0, M0, env, T, r', e, ⟨nb, ro⟩, sa, k⟩ := q
  obtain ⟨r1, e1, e⟩ := ob e
  refine ⟨H0, M0, env, T, r1, e1, sa, fun _ => ro, fun J H1 S nbS sa1 wk => ?_⟩
  have nb2 : noB L (T ++ S) := nb.append fun v i π h => absurd (nbS v i π h) (by simp)
  have ro2 : Roots (T ++ S) := ro.append fun v i π h => absurd (nbS v i π h) (by simp)
  refine ⟨fun i m σ' H' => m = r1.1.length - i ∧ i ≤ r1.1.length ∧ ∃ env', SA X.K H0 M0 σ' env' (T ++ S) H' ∧ forL (fun p e => (bindT t p e).bind fun e1 => fs e1) (r1.1.drop i) env' = some r', ⟨r1.1.length, by simp, Nat.zero_le _, _, sa1, by simpa using e⟩, ?_⟩
  rintro i m σ2 H2 ⟨rfl, hi, env', sa3, ec⟩
  by_cases hlt : i < r1.1.length
  · have hd : r1.1.drop i = r1.1[i] :: r1.1.drop (i + 1) := List.drop_eq_getElem_cons hlt
    rw [hd] at ec
    obtain ⟨st, es, ec⟩ := ob ec
    obtain ⟨go, yl⟩ := (wk i _ _ _ _ (fun e he => List.mem_append_right _ he) sa3).1 r1.1[i] (List.getElem?_eq_getElem hlt)
    refine .inr ⟨go, fun σ' H' => i + 1 ≤ r1.1.length ∧ ∃ env', SA X.K H0 M0 σ' env' (T ++ S) H' ∧ forL (fun p e => (bindT t p e).bind fun e1 => fs e1) (r1.1.drop (i + 1)) env' = some r',
      fun σ' H' ⟨h1, h2⟩ => ⟨_, by omega, rfl, h1, h2⟩, fun x H' yy => ?_⟩
    have sa4 : SA X.K H0 M0 σ2 env' (T ++ S ++ [(x, .t (.sh r1.1[i]))]) H' := by simpa using yl x H' yy
    obtain ⟨b1, eb, es⟩ := ob es
    refine bind_ok eb sa4 (fun j hj => nb2.not (ht j hj)) fun σ3 sa5 _ _ => ?_
    refine ⟨H0, M0, b1, _, st, es, ⟨nb2, ro2⟩, sa5, ?_⟩
    cases st with
    | next e2 => exact fun σ' H' sa' => ⟨hlt, e2, sa', ec⟩
    | ret v e2 => cases ec; exact fun v' σ' H' sa' => k v' σ' H' (SA.mid (T := T) (A := S) sa')
    | brk e2 => cases ec; exact fun σ' H' sa' => k σ' H' sa'.left
  · have e0 : i = r1.1.length := by omega
    subst e0
    rw [List.drop_length] at ec
    simp only [forL, Option.some.injEq] at ec
    subst ec
    exact .inl ⟨(wk _ _ _ _ _ (fun e he => List.mem_append_right _ he) sa3).2 (Nat.le_refl _), k _ _ sa3.left⟩
end
end Me
/-! Me13: statements that change a tree. -/
namespace Me
open PySem PySem.Spec PyProof.Rows L2
open NdefX (TabsN NTab TabN)
open LamX (CodeO TabB ExtN)
variable [Reg]
theorem PS_or {X : Cx} {st : Stmt} {t t' : TS} (h : PS X st t) (h' : PS X st t') : PS X st (fun D σ H => t D σ H ∨ t' D σ H) := ⟨fun pins s σ H D I q => q.elim (h.run pins s σ H D I) (h'.run pins s σ H D I)⟩
section
variable {X : Cx} {e ke o : Expr} {pos p apos cpos : Pos} {f g h : PEnv → Option (Bw × PEnv)} {cf cg ch : Bool} {L : List Nat}
/-- a list that a path leads to -/
theorem SAx.lstAt {K : PySem.W.Frag} {H0 M0 H M : Hp} {σ : L2.St} {env : PEnv} {T : List (V × Bw)} {E : List (V × Sl)} (sx : SAx K H0 M0 σ env T H E M) {v : V} {x : Bw} (hm : (v, x) ∈ T) (e : isOwn (slb env x) = true) : ∃ a vs, v = .ref a ∧ H a = some (.lst vs) := by
  cases q : slb env x with
  | none => rw [q] at e; cases e
  | some s =>
    rw [q] at e
    obtain ⟨⟨A, t⟩, _⟩ := sx.get hm q
    cases t with
    | own _ _ h _ => exact ⟨_, _, rfl, h⟩
    | _ => cases e
/-- a list at its place is written; C leaves the hand -/
theorem SAx.wlist {K : PySem.W.Frag} {H0 M0 H M : Hp} {σ : L2.St} {env : PEnv} {T C : List (V × Bw)} {E : List (V × Sl)} (sx : SAx K H0 M0 σ env (T ++ C) H E M) (ro : Roots T) {v : V} {i : Nat} {π : List Nat} {xs : List PV} (hm : (v, Bw.b i π) ∈ C) (e : slb env (.b i π) = some (.own xs)) :
    ∃ a vs, v = .ref a ∧ H a = some (.lst vs) ∧ Reps K M vs xs ∧ ∀ vs' ps', Reps K M vs' ps' → SA K H0 M0 σ (setP env i π (.own ps')) T (upd H a (.lst vs')) := by
  obtain ⟨u0, u1, u2, _⟩ := sx.bor v i π (List.mem_append_right _ hm)
  obtain ⟨A1, AC, t1, tC, n1, k⟩ := sx.write ro e ⟨u0, u1, u2⟩
  cases t1 with
  | own m h0 hh r =>
    refine ⟨_, _, rfl, hh, r, fun vs' ps' r' => k (fun b o nb e => ?_) (.own m h0 upd_same r') (by simp) (fun b hb => .inl (List.mem_append_left _ hb))⟩
    rw [upd_ne (fun z => nb (by simp [z]))]
    exact e
theorem appB_some {env : PEnv} {x : Bw} {p : PV} {e' : PEnv} (h : appB env x p = some e') : ∃ i π xs, x = .b i π ∧ slb env x = some (.own xs) ∧ xs.length < lim ∧ e' = setP env i π (.own (xs ++ [p])) := by
  unfold appB at h
  split at h
  · rename_i i π xs hs
    split at h
    · rename_i hl; cases h; exact ⟨i, π, xs, rfl, hs, hl, rfl⟩
    · cases h
  · cases h
theorem ss_app (ho : PE X o (tE X.K cg g)) (he : PE X e (tE X.K cf f)) (hb : attributeBase o "append" X.env (eval o X.env) = eval o X.env) (hs : starEach [e] X.env = (false, eval e X.env) :: starEach [] X.env) (hline : (apos.endLine == cpos.line) = true) :
    PS X (.Expr (.Call (.Attribute o "append" apos) [e] [] cpos) pos) (tSs X.K L fun env => (g env).bind fun r => if (gd r.1 cf && isOwn (slb r.2 r.1)) = true then (f r.2).bind fun q => (Me.fix q.2 q.1).bind fun z => (appB z.2 r.1 z.1).map .next else none) := by
  refine PS_imp (ps_expr (pe_bm PySem.F.plainAttrs_list PySem.F.slot_list_append PySem.F.type_list_append mt_append ho (pa_cons he pa_nil hs) hb (by rw [hs]; rfl) hline hs rfl) rfl) fun D σ H q => ?_
  obtain ⟨H0, M0, env, T, r', e, ⟨nb, ro⟩, sa, k⟩ := q
  obtain ⟨r1, e1, e⟩ := ob e
  obtain ⟨hg, e⟩ := og e
  simp only [Bool.and_eq_true] at hg
  obtain ⟨r2, e2, e⟩ := ob e
  obtain ⟨z, e3, e⟩ := ob e
  obtain ⟨e', e4, rfl⟩ := om e
  refine ⟨H0, M0, env, T, r1, e1, sa, fun _ => ro, fun x H1 sa1 => ?_⟩
  obtain ⟨E, M, sx⟩ := id sa1
  obtain ⟨a, vs0, rfl, h2⟩ := sx.lstAt (v := x) (by simp) hg.2
  refine ⟨.inl ⟨rfl, vs0, .of h2⟩, H0, M0, r1.2, _, r2, e2, sa1, ro_snoc (fun _ => ro) hg.1, fun v H' sa' => ?_⟩
  have sa2 := SA.fix (B := []) sa' e3
  obtain ⟨i, π, xs, hr, hx, hl, rfl⟩ := appB_some e4
  obtain ⟨E2, M2, sx2⟩ := sa2
  rw [hr] at sx2 hx
  have sx3 : SAx X.K H0 M0 σ z.2 (T ++ [(.ref a, .b i π), (v, .t (.sh z.1))]) H' E2 M2 := by simpa using sx2
  obtain ⟨a', vs, ea, h3, r3, kw⟩ := sx3.wlist ro (v := .ref a) (by simp) hx
  cases ea
  obtain ⟨⟨Av, tv⟩, _⟩ := sx3.get (v := v) (x := .t (.sh z.1)) (by simp) rfl
  cases tv with
  | sh rv => exact ⟨a, vs, v, rfl, rfl, h3, by rw [r3.length]; have := lim_eq; omega, k _ _ (kw _ _ (r3.snoc rv))⟩
theorem ss_pop (ho : PE X o (tE X.K cg g)) (hb : attributeBase o "pop" X.env (eval o X.env) = eval o X.env) (hline : (apos.endLine == cpos.line) = true) :
    PS X (.Expr (.Call (.Attribute o "pop" apos) [] [] cpos) pos) (tSs X.K L fun env => (g env).bind fun r => (popB r.2 r.1).map .next) := by
  refine PS_imp (ps_expr (pe_bm0 PySem.F.plainAttrs_list PySem.F.slot_list_pop PySem.F.type_list_pop mt_pop ho hb hline) rfl) fun D σ H q => ?_
  obtain ⟨H0, M0, env, T, r', e, ⟨nb, ro⟩, sa, k⟩ := q
  obtain ⟨r1, e1, e⟩ := ob e
  obtain ⟨e', e4, rfl⟩ := om e
  refine ⟨H0, M0, env, T, r1, e1, sa, fun _ => ro, fun x H1 sa1 => ?_⟩
  obtain ⟨E, M, sx⟩ := sa1
  unfold popB at e4
  split at e4
  · rename_i i π xs hr hx
    split at e4
    · cases e4
    · rename_i hne
      cases e4
      rw [hr] at sx hx
      obtain ⟨a, vs, rfl, h3, r3, kw⟩ := sx.wlist ro (v := x) (by simp) hx
      have hl : vs.length - 1 < vs.length := by rw [r3.length]; omega
      exact ⟨.inl ⟨rfl, vs, .of h3⟩, a, vs, _, rfl, rfl, h3, List.getElem?_eq_getElem hl, k _ _ (kw _ _ r3.dropLast)⟩
  · cases e4

/-! ### o[k] = e -/
theorem dPut_K {K : PySem.W.Frag} {M : Hp} {k : PV} {kk : Key} (e : keyP k = some kk) {w : V} {p : PV} (rw' : Rep K M w p) {kvs : List (Key × V)} {qs : List (PV × PV)} (h : kvs.map (fun e => kP e.1) = qs.map (·.1)) (r : Reps K M (kvs.map (·.2)) (qs.map (·.2))) (hk : k = kP kk) :
    (putK kvs kk w).map (fun e => kP e.1) = (dPut k p qs).map (·.1) ∧ Reps K M ((putK kvs kk w).map (·.2)) ((dPut k p qs).map (·.2)) := by
  have any : ∀ {kvs : List (Key × V)} {qs : List (PV × PV)}, kvs.map (fun e => kP e.1) = qs.map (·.1) → (kvs.any fun kv => decide (kv.1 = kk)) = qs.any fun e => eqK e.1 k := by
    intro kvs
    induction kvs with
    | nil => intro qs h; cases qs with
      | nil => rfl
      | cons => simp at h
    | cons a kvs ih =>
      intro qs h
      cases qs with
      | nil => simp at h
      | cons b qs =>
        simp only [List.map_cons, List.cons.injEq] at h
        simp only [List.any_cons]
        rw [ih h.2, ← h.1, eqK_K a.1 e]
  have mp : ∀ {kvs : List (Key × V)} {qs : List (PV × PV)}, kvs.map (fun e => kP e.1) = qs.map (·.1) → Reps K M (kvs.map (·.2)) (qs.map (·.2)) →
      (kvs.map fun kv => if kv.1 = kk then (kv.1, w) else kv).map (fun e => kP e.1) = (qs.map fun e => if eqK e.1 k then (e.1, p) else e).map (·.1) ∧
      Reps K M ((kvs.map fun kv => if kv.1 = kk then (kv.1, w) else kv).map (·.2)) ((qs.map fun e => if eqK e.1 k then (e.1, p) else e).map (·.2)) := by
    intro kvs
    induction kvs with
    | nil => intro qs h _; cases qs with
      | nil => exact ⟨rfl, .nil⟩
      | cons => simp at h
    | cons a kvs ih =>
      intro qs h r
      cases qs with
      | nil => simp at h
      | cons b qs =>
        simp only [List.map_cons, List.cons.injEq] at h
        cases r with
        | cons r1 r2 =>
          obtain ⟨i1, i2⟩ := ih h.2 r2
          have ek : eqK b.1 k = decide (a.1 = kk) := by rw [← h.1, eqK_K a.1 e]
          simp only [List.map_cons]
          rw [ek]
          by_cases q : a.1 = kk
          · simp only [q, decide_true, if_true]
            rw [i1]
            exact ⟨by rw [← h.1, q], .cons rw' i2⟩
          · simp only [q, decide_false, if_false, Bool.false_eq_true]
            rw [i1]
            exact ⟨by rw [← h.1], .cons r1 i2⟩
  unfold putK dPut
  rw [any h]
  split
  · exact mp h r
  · refine ⟨by simp [h, hk], ?_⟩
    rw [List.map_append, List.map_append]
    exact r.append (.cons rw' .nil)
theorem dPut_T {K : PySem.W.Frag} {M : Hp} {k : PV} {kk : List Key} (e : keysP k = some kk) {w : V} {p : PV} (rw' : Rep K M w p) {kvs : List (List Key × V)} {qs : List (PV × PV)} (h : kvs.map (fun e => kT e.1) = qs.map (·.1)) (r : Reps K M (kvs.map (·.2)) (qs.map (·.2))) (hk : k = kT kk) :
    (putK kvs kk w).map (fun e => kT e.1) = (dPut k p qs).map (·.1) ∧ Reps K M ((putK kvs kk w).map (·.2)) ((dPut k p qs).map (·.2)) := by
  have any : ∀ {kvs : List (List Key × V)} {qs : List (PV × PV)}, kvs.map (fun e => kT e.1) = qs.map (·.1) → (kvs.any fun kv => decide (kv.1 = kk)) = qs.any fun e => eqK e.1 k := by
    intro kvs
    induction kvs with
    | nil => intro qs h; cases qs with
      | nil => rfl
      | cons => simp at h
    | cons a kvs ih =>
      intro qs h
      cases qs with
      | nil => simp at h
      | cons b qs =>
        simp only [List.map_cons, List.cons.injEq] at h
        simp only [List.any_cons]
        rw [ih h.2, ← h.1, eqK_T a.1 e]
  have mp : ∀ {kvs : List (List Key × V)} {qs : List (PV × PV)}, kvs.map (fun e => kT e.1) = qs.map (·.1) → Reps K M (kvs.map (·.2)) (qs.map (·.2)) →
      (kvs.map fun kv => if kv.1 = kk then (kv.1, w) else kv).map (fun e => kT e.1) = (qs.map fun e => if eqK e.1 k then (e.1, p) else e).map (·.1) ∧
      Reps K M ((kvs.map fun kv => if kv.1 = kk then (kv.1, w) else kv).map (·.2)) ((qs.map fun e => if eqK e.1 k then (e.1, p) else e).map (·.2)) := by
    intro kvs
    induction kvs with
    | nil => intro qs h _; cases qs with
      | nil => exact ⟨rfl, .nil⟩
      | cons => simp at h
    | cons a kvs ih =>
      intro qs h r
      cases qs with
      | nil => simp at h
      | cons b qs =>
        simp only [List.map_cons, List.cons.injEq] at h
        cases r with
        | cons r1 r2 =>
          obtain ⟨i1, i2⟩ := ih h.2 r2
          have ek : eqK b.1 k = decide (a.1 = kk) := by rw [← h.1, eqK_T a.1 e]
          simp only [List.map_cons]
          rw [ek]
          by_cases q : a.1 = kk
          · simp only [q, decide_true, if_true]
            rw [i1]
            exact ⟨by rw [← h.1, q], .cons rw' i2⟩
          · simp only [q, decide_false, if_false, Bool.false_eq_true]
            rw [i1]
            exact ⟨by rw [← h.1], .cons r1 i2⟩
  unfold putK dPut
  rw [any h]
  split
  · exact mp h r
  · refine ⟨by simp [h, hk], ?_⟩
    rw [List.map_append, List.map_append]
    exact r.append (.cons rw' .nil)
theorem ss_stx (hu : X.A.units + 65 < cLine) (ho : PE X o (tE X.K ch h)) (he : PE X e (tE X.K cf f)) (hk : PE X ke (tE X.K cg g))
    (hs : swapsWithSole [.Subscript o ke apos] e pos.line X.env = pure false) (hsd : swapsWith e (some (.Subscript o ke apos)) pos.line X.env = pure false) (hw : swappedStores [.Subscript o ke apos] e X.env = pure none)
    (ha : ∀ v, assign (.Subscript o ke apos) X.env v = (do
      let ov ← holding [v] (eval o X.env)
      let iv ← holding [v, ov] (eval ke X.env)
      standAt apos
      holding [v, ov, iv] (setItem ov iv v)
      release [v, ov, iv] [])) :
    PS X (.Assign [.Subscript o ke apos] e pos) (tSs X.K L fun env => (f env).bind fun r => (Me.fix r.2 r.1).bind fun z => (h z.2).bind fun q => if gd q.1 cg = true then (g q.2).bind fun w => (Me.fix w.2 w.1).bind fun u => (stxB u.2 q.1 u.1 z.1).map .next else none) := by
  refine PS_imp (PS_or (ps_asg he (pg_sub ho hk set_list ha) hs hw rfl) (ps_dput (by omega) ho hk he hsd)) fun D σ H q => ?_
  obtain ⟨H0, M0, env, T, r', e, ⟨nb, ro⟩, sa, k⟩ := q
  obtain ⟨r1, e1, e⟩ := ob e
  obtain ⟨z, e2, e⟩ := ob e
  obtain ⟨q, e3, e⟩ := ob e
  obtain ⟨hg, e⟩ := og e
  obtain ⟨w, e4, e⟩ := ob e
  obtain ⟨u, e5, e⟩ := ob e
  obtain ⟨e', e6, rfl⟩ := om e
  have roz : ∀ v, Roots (T ++ [(v, .t (.sh z.1))]) := fun v => ro.append (Roots.one _ _)
  unfold stxB at e6
  split at e6
  · rename_i i π xs hr hx
    split at e6
    · rename_i n hn
      obtain ⟨j, e7, rfl⟩ := om e6
      refine .inl ⟨H0, M0, env, T, r1, e1, sa, fun _ => ro, fun v H1 sa1 => ?_⟩
      have sa2 := SA.fix (B := []) sa1 e2
      refine ⟨H0, M0, z.2, _, q, e3, sa2, fun _ => roz v, fun x H2 sa3 => ⟨H0, M0, q.2, _, w, e4, sa3, ro_snoc (fun _ => roz v) hg, fun y H3 sa4 => ?_⟩⟩
      have sa5 := SA.fix (B := []) sa4 e5
      obtain ⟨E, M, sx⟩ := sa5
      rw [hr] at sx hx
      have sx3 : SAx X.K H0 M0 σ u.2 (T ++ [(v, .t (.sh z.1)), (x, .b i π), (y, .t (.sh u.1))]) H3 E M := by simpa using sx
      obtain ⟨a, vs, rfl, h3, r3, kw⟩ := sx3.wlist ro (v := x) (by simp) hx
      have hy : y = .int n := (sx3.get (v := y) (x := .t (.sh u.1)) (by simp) rfl).int (by rw [← hn]; rfl)
      obtain ⟨⟨Av, tv⟩, _⟩ := sx3.get (v := v) (x := .t (.sh z.1)) (by simp) rfl
      cases tv with
      | sh rv => exact ⟨a, vs, n, j, rfl, hy, h3, by rw [r3.length]; exact e7, k _ _ (kw _ _ (r3.set j rv))⟩
    · cases e6
  · rename_i i π t qs hr hx
    split at e6
    · rename_i hc
      cases e6
      simp only [Bool.and_eq_true, decide_eq_true_eq] at hc
      refine .inr ⟨H0, M0, env, T, r1, e1, sa, fun _ => ro, fun v H1 sa1 => ?_⟩
      have sa2 := SA.fix (B := []) sa1 e2
      refine ⟨H0, M0, z.2, _, q, e3, sa2, fun _ => roz v, fun x H2 sa3 => ⟨H0, M0, q.2, _, w, e4, sa3, ro_snoc (fun _ => roz v) hg, fun y H3 sa4 => ?_⟩⟩
      have sa5 := SA.fix (B := []) sa4 e5
      obtain ⟨E, M, sx⟩ := sa5
      rw [hr] at sx hx
      have sx3 : SAx X.K H0 M0 σ u.2 (T ++ [(v, .t (.sh z.1)), (x, .b i π), (y, .t (.sh u.1))]) H3 E M := by simpa using sx
      obtain ⟨u0, u1, u2, _⟩ := sx3.bor x i π (by simp)
      obtain ⟨A1, AC, t1, tC, n1, kw⟩ := sx3.write ro hx ⟨u0, u1, u2⟩
      obtain ⟨⟨Av, tv⟩, _⟩ := sx3.get (v := v) (x := .t (.sh z.1)) (by simp) rfl
      obtain ⟨⟨Ay, ty⟩, _⟩ := sx3.get (v := y) (x := .t (.sh u.1)) (by simp) rfl
      cases tv with
      | sh rv =>
        cases ty with
        | sh ry =>
          cases t1 with
          | dK m h0 hh h1 r =>
            simp only [okKey, Option.isSome_iff_exists] at hc
            obtain ⟨⟨kk, ek⟩, hl⟩ := hc
            obtain ⟨rfl, hkp⟩ := keyP_rep ry ek
            obtain ⟨d1, d2⟩ := dPut_K ek rv h1 r hkp
            refine ⟨_, _, rfl, .k hh (by have hlen := congrArg List.length h1; simp only [List.length_map] at hlen; have := lim_eq; omega), k _ _ (kw (fun b o nb e => ?_) (.dK m h0 upd_same d1 d2) (by simp) (fun b hb => .inl (List.mem_append_left _ hb)))⟩
            rw [upd_ne (fun z => nb (by simp [z]))]
            exact e
          | dT m h0 hh h1 r =>
            simp only [okKey, Option.isSome_iff_exists] at hc
            obtain ⟨⟨kk, ek⟩, hl⟩ := hc
            generalize hu1 : u.1 = uk at ry ek
            cases ry with
            | tup mm rs =>
              obtain ⟨rfl, hkp⟩ := keysL_rep rs ek
              obtain ⟨d1, d2⟩ := dPut_T ek rv h1 r (by rw [hkp]; rfl)
              rw [← hu1] at d1 d2
              refine ⟨_, _, rfl, .t hh (sx3.same _ _ mm) (by have hlen := congrArg List.length h1; simp only [List.length_map] at hlen; have := lim_eq; omega), k _ _ (kw (fun b o nb e => ?_) (.dT m h0 upd_same d1 d2) (by simp) (fun b hb => .inl (List.mem_append_left _ hb)))⟩
              rw [upd_ne (fun z => nb (by simp [z]))]
              exact e
            | _ => simp [keysP] at ek
    · cases e6
  · cases e6

/-! ### o.f = e -/
theorem putF_fst : ∀ {fs : List (Str × V)} {n : Str} {j : Nat} {y : V}, posS (fs.map (·.1)) n = some j → (putF n y fs).map (·.1) = fs.map (·.1) ∧ (putF n y fs).map (·.2) = (fs.map (·.2)).set j y
  | [], _, _, _, h => by simp [posS] at h
  | (a, w) :: fs, n, j, y, h => by
    simp only [List.map_cons, posS] at h
    unfold putF
    split at h
    · rename_i q; cases h
      rw [if_pos q]
      exact ⟨rfl, rfl⟩
    · rename_i q
      obtain ⟨m, h1, rfl⟩ := Option.map_eq_some_iff.mp h
      rw [if_neg q]
      obtain ⟨i1, i2⟩ := putF_fst (y := y) h1
      exact ⟨by simp [i1], by simp [i2]⟩
theorem putF_new : ∀ {fs : List (Str × V)} {n : Str} {y : V}, posS (fs.map (·.1)) n = none → putF n y fs = fs ++ [(n, y)]
  | [], _, _, _ => rfl
  | (a, w) :: fs, n, y, h => by
    simp only [List.map_cons, posS] at h
    unfold putF
    split at h
    · cases h
    · rename_i q
      rw [if_neg q, putF_new (Option.map_eq_none_iff.mp h)]
      rfl
theorem ss_fld {n : Str} {cs : List Str} (hcs : ∀ c, cs.contains c = true → ∃ C, ClsAt X.K c C ∧ Cls X.K C ∧ NoAttr X.K C n) (ho : PE X o (tE X.K cg g)) (he : PE X e (tE X.K cf f)) (hs : swapsWith e (some (.Attribute o n apos)) pos.line X.env = pure false) :
    PS X (.Assign [.Attribute o n apos] e pos) (tSs X.K L fun env => (f env).bind fun r => (Me.fixO r.2 r.1).bind fun z => (g z.2).bind fun q => (fldB q.2 q.1 n cs z.1).map .next) := by
  refine PS_imp (ps_fld ho he hs) fun D σ H q => ?_
  obtain ⟨H0, M0, env, T, r', e, ⟨nb, ro⟩, sa, k⟩ := q
  obtain ⟨r1, e1, e⟩ := ob e
  obtain ⟨z, e2, e⟩ := ob e
  obtain ⟨q, e3, e⟩ := ob e
  obtain ⟨e', e4, rfl⟩ := om e
  refine ⟨H0, M0, env, T, r1, e1, sa, fun _ => ro, fun y H1 sa1 => ?_⟩
  have sa2 := SA.fixO (B := []) sa1 e2
  refine ⟨H0, M0, z.2, _, q, e3, sa2, fun _ => ro.append (Roots.one _ _), fun x H2 sa3 => ?_⟩
  obtain ⟨E, M, sx⟩ := sa3
  unfold fldB at e4
  split at e4
  · rename_i i π c ns xs hr hx
    split at e4
    · rename_i hc
      simp only [Bool.and_eq_true, decide_eq_true_eq] at hc
      cases e4
      rw [hr] at sx hx
      have sx3 : SAx X.K H0 M0 σ q.2 (T ++ [(y, .t z.1), (x, .b i π)]) H2 E M := by simpa using sx
      obtain ⟨u0, u1, u2, _⟩ := sx3.bor x i π (by simp)
      obtain ⟨A1, AC, t1, tC, n1, kw⟩ := sx3.write ro hx ⟨u0, u1, u2⟩
      have tC' : TrE X.K H0 M H2 [(y, z.1)] AC := tC
      obtain ⟨AY, AN, rfl, tY, tN⟩ := tC'.uncons
      cases tN
      rw [List.append_nil] at n1 kw
      obtain ⟨C, c1, c2, c3⟩ := hcs c hc.1
      cases t1 with
      | ins m1 m2 m3 m4 h1 h2 h3 h4 h5 =>
        rename_i a dx C0 fs As
        cases h3.uniq c1
        subst h4
        have nd1 := (List.nodup_append.mp n1).1
        have na : a ∉ dx :: As := (List.nodup_cons.mp nd1).1
        have na2 : a ∉ As := fun z => na (List.mem_cons_of_mem _ z)
        have nadx : dx ≠ a := fun z => na (by rw [z]; exact List.mem_cons_self)
        have ndx : dx ∉ As := (List.nodup_cons.mp (List.nodup_cons.mp nd1).2).1
        have nAs : As.Nodup := (List.nodup_cons.mp (List.nodup_cons.mp nd1).2).2
        have nAY : AY.Nodup := (List.nodup_append.mp n1).2.1
        have disj : ∀ b, b ∈ a :: dx :: As → b ∉ AY := fun b h1 h2 => nodup_disj n1 h1 h2
        have hup : ∀ b, b ≠ a → ∀ o', upd H2 a o' b = H2 b := fun b nb o' => upd_ne nb
        have fr : ∀ (fs' : List (Str × V)) (b : Addr), b ∈ As ∨ b ∈ AY → M b = none ∧ H0 b = none ∧ upd H2 a (.ins C dx fs') b = H2 b := fun fs' b hb => by
          rcases hb with hb | hb
          · obtain ⟨p1, p2, _⟩ := Trs.mem h5 b hb
            exact ⟨p1, p2, upd_ne fun z => na2 (by rw [← z]; exact hb)⟩
          · obtain ⟨p1, p2, _⟩ := Tr.mem tY b hb
            exact ⟨p1, p2, upd_ne fun z => disj a List.mem_cons_self (by rw [← z]; exact hb)⟩
        have hlen : fs.length < 1000 := by simpa using hc.2
        have keep : ∀ (fs' : List (Str × V)) (b : Addr) (o : HO), b ∉ (a :: dx :: As) ++ AY → H2 b = some o → upd H2 a (.ins C dx fs') b = some o := fun fs' b o nb e => by
          rw [upd_ne (fun z => nb (by simp [z]))]
          exact e
        refine ⟨a, C, dx, fs, rfl, h1, c2, c3, hlen, k _ _ ?_⟩
        cases hp : posS (fs.map (·.1)) n with
        | some j =>
          obtain ⟨p1, p2⟩ := putF_fst (y := y) hp
          have hj : j < xs.length := by
            have := (List.getElem?_eq_some_iff.mp (posS_get hp)).1
            rw [← h5.length]
            simpa using this
          obtain ⟨v, A, B, C', q1, rfl, q3, q4⟩ := h5.get (List.getElem?_eq_getElem hj)
          have t' := q4 (H0' := H0) (M' := M) (H' := upd H2 a (.ins C dx (putF n y fs))) (Same.refl M) (fun b hb => fr _ b (.inl (by
            rcases List.mem_append.mp hb with z | z
            · simp [z]
            · simp [z]))) (Tr.frame (Same.refl M) tY fun b hb => fr _ b (.inr hb))
          refine kw (keep _) (.ins m1 m2 m3 m4 upd_same (by rw [upd_ne nadx]; exact h2) h3 p1 (by rw [p2]; exact t')) ?_ (fun b hb => ?_)
          · have e1 : (A ++ (B ++ C')).Nodup := nAs
            have e2 : (A ++ (AY ++ C')).Nodup := by
              have pm := (perm_zip A AY C').nodup_iff
              refine pm.mpr (List.nodup_append.mpr ⟨nAY, ?_, fun x hx y hy e => ?_⟩)
              · have := (perm_zip A B C').nodup_iff.mp e1
                exact (List.nodup_append.mp this).2.1
              · subst e
                refine disj x ?_ hx
                rcases List.mem_append.mp hy with z | z
                · simp [z]
                · simp [z]
            refine List.nodup_cons.mpr ⟨fun hm => ?_, List.nodup_cons.mpr ⟨fun hm => ?_, e2⟩⟩
            · rcases List.mem_cons.mp hm with z | z
              · exact nadx z.symm
              · rcases List.mem_append.mp z with w | w
                · exact na2 (by simp [w])
                · rcases List.mem_append.mp w with w | w
                  · exact disj a List.mem_cons_self w
                  · exact na2 (by simp [w])
            · rcases List.mem_append.mp hm with w | w
              · exact ndx (by simp [w])
              · rcases List.mem_append.mp w with w | w
                · exact disj dx (List.mem_cons_of_mem _ List.mem_cons_self) w
                · exact ndx (by simp [w])
          · left
            simp only [List.mem_cons, List.mem_append] at hb ⊢
            rcases hb with rfl | rfl | hb | hb | hb <;> simp_all
        | none =>
          have p1 := putF_new (y := y) hp
          have t' : Trs X.K H0 M (upd H2 a (.ins C dx (putF n y fs))) ((putF n y fs).map (·.2)) (xs ++ [z.1]) (As ++ AY) := by
            rw [p1, List.map_append]
            refine Trs.append (Trs.frame (Same.refl M) h5 fun b hb => fr _ b (.inl hb)) ?_
            exact TrE.one (Tr.frame (Same.refl M) tY fun b hb => fr _ b (.inr hb))
          refine kw (keep _) (.ins m1 m2 m3 m4 upd_same (by rw [upd_ne nadx]; exact h2) h3 (by rw [p1]; simp) t') n1 (fun b hb => .inl hb)
    · cases e4
  · cases e4
end
end Me
/-! Me13v: functions that a def gives back are made. -/
namespace Me
open PySem PySem.Spec PyProof.Rows L2
open NdefX (TabsN NTab TabN CellsAt)
open LamX (CodeO TabB ExtN codeO_ne inv_table)
variable [Reg]

section
variable {K : PySem.W.Frag} {H0 M0 M H H1 : Hp} {E : List (V × Sl)}
/-- a function is made: it and its code object may be read from now on -/
theorem Hyp.grow {f c' : Addr} {F : NFd} {cl : List (Str × Addr)} {q : Str} (h : Hyp K H0 M0 M H E) (eN : ExtN H H1) (tb : TabsN (Reg.T K) H1) (f0 : H f = none) (f1 : H1 f = some (CloO f F cl c')) (c1 : H1 c' = some (CodeO c' q)) :
    ∃ M1, Same M M1 ∧ M1 f = some (CloO f F cl c') ∧ M1 c' = some (CodeO c' q) ∧ Hyp K H0 M0 M1 H1 E := by
  classical
  have ke : ∀ b o, H b = some o → ntO o = true → H1 b = some o := fun b o e n => eN b o e fun ps z => by subst z; cases n
  obtain ⟨As, t, nd⟩ := h.ok
  generalize hM1 : (fun b => if b = f then H1 f else if b = c' then H1 c' else M b : Hp) = M1
  have m1 : M1 f = some (CloO f F cl c') := by rw [← hM1]; show (if f = f then H1 f else _) = _; rw [if_pos rfl]; exact f1
  have m2 : M1 c' = some (CodeO c' q) := by
    rw [← hM1]
    show (if c' = f then H1 f else if c' = c' then H1 c' else M c') = _
    by_cases e : c' = f
    · rw [if_pos e, ← e]; exact c1
    · rw [if_neg e, if_pos rfl]; exact c1
  have m3 : ∀ b, b ≠ f → b ≠ c' → M1 b = M b := fun b n1 n2 => by rw [← hM1]; show (if b = f then H1 f else if b = c' then H1 c' else M b) = _; rw [if_neg n1, if_neg n2]
  have sm : Same M M1 := fun b o e => by
    by_cases n1 : b = f
    · subst n1; have := h.sub _ _ e; rw [f0] at this; cases this
    · by_cases n2 : b = c'
      · subst n2
        have := ke _ _ (h.sub _ _ e) (h.ntM _ _ e)
        rw [c1] at this; cases this
        exact m2
      · rw [m3 b n1 n2]; exact e
  refine ⟨M1, sm, m1, m2, fun b o e => ?_, h.low.trans sm, fun b o e => ?_, fun b o e => ke b o (h.old b o e) (h.nt0 b o e), tb, h.nt0, fun b o e => ?_, As, ?_, nd⟩
  · by_cases n1 : b = f
    · subst n1; rw [m1] at e; cases e; exact f1
    · by_cases n2 : b = c'
      · subst n2; rw [m2] at e; cases e; exact c1
      · rw [m3 b n1 n2] at e; exact ke _ _ (h.sub _ _ e) (h.ntM _ _ e)
  · by_cases n1 : b = f
    · subst n1; rw [m1] at e; cases e; exact .inr (.inr rfl)
    · by_cases n2 : b = c'
      · subst n2; rw [m2] at e; cases e; exact .inr (.inr rfl)
      · rw [m3 b n1 n2] at e; exact h.new _ _ e
  · by_cases n1 : b = f
    · subst n1; rw [m1] at e; cases e; rfl
    · by_cases n2 : b = c'
      · subst n2; rw [m2] at e; cases e; rfl
      · rw [m3 b n1 n2] at e; exact h.ntM _ _ e
  · refine Trs.frame sm t fun b hb => ?_
    obtain ⟨q1, q2, o, q3, q4⟩ := t.mem b hb
    have k1 := ke b o q3 (trO_nt q4)
    have n1 : b ≠ f := fun z => by subst z; rw [f0] at q3; cases q3
    have n2 : b ≠ c' := fun z => by subst z; rw [c1] at k1; cases k1; cases q4
    exact ⟨by rw [m3 b n1 n2]; exact q1, q2, by rw [k1, q3]⟩
end
section
variable {X : Cx} {pins : List (Addr × Obj)} {σ : L2.St} {H : Hp} {s : Shared}
end
/-- what the making of functions asks of the running def -/
structure MkAt (X : Cx) : Prop where
  ex : ∃ (c P : Addr), TabB X.base X.mg c P ∧ X.env.code = .ref c ∧ P ∈ Reg.ad X.K
section
variable {X : Cx} {pins : List (Addr × Obj)} {σ : L2.St} {H : Hp} {s : Shared}
theorem SAx.grow {K : PySem.W.Frag} {H0 M0 M H H1 : Hp} {env : PEnv} {T : List (V × Bw)} {E : List (V × Sl)} {f c' : Addr} {F : NFd} {cl : List (Str × Addr)} {q : Str} (h : SAx K H0 M0 σ env T H E M) (eN : ExtN H H1) (tb : TabsN (Reg.T K) H1) (f0 : H f = none) (f1 : H1 f = some (CloO f F cl c')) (c1 : H1 c' = some (CodeO c' q)) :
    ∃ M1, Same M M1 ∧ M1 f = some (CloO f F cl c') ∧ M1 c' = some (CodeO c' q) ∧ SAx K H0 M0 σ env T H1 E M1 := by
  obtain ⟨M1, sm, m1, m2, hy⟩ := h.hyp.grow eN tb f0 f1 c1
  refine ⟨M1, sm, m1, m2, h.lv, hy, fun v i π hm => ?_⟩
  obtain ⟨u0, u1, u2, u3⟩ := h.bor v i π hm
  exact ⟨u0, u1, u2.monoT (fun b o e n => eN b o e fun ps z => by subst z; cases n), u3⟩
/-! ### a body that ends with a def and gives it back -/
end
end Me
/-! Me13s: sorted by a lambda that asks a captured value. -/
namespace Me
open PySem PySem.Spec PyProof.Rows L2
open NdefX (TabsN NTab TabN)
open LamX (CodeO TabB ExtN)
variable [Reg]

/-- u[1][x][1] is r, by the heap's own look -/
def KeyH (h : Heap) (u : Value) (x r : Int) : Prop := ∃ (ap ar ae : Addr) (is rs zs : List Value) (j0 jx jz : Nat) (t : Tok), u = .ref ap ∧ IsTup h ap is.toArray ∧ seqIndex? 1 is.length = some j0 ∧ is[j0]? = some (.ref ar) ∧
  IsTup h ar rs.toArray ∧ seqIndex? x rs.length = some jx ∧ rs[jx]? = some (.ref ae) ∧ -(2 ^ 63) ≤ x ∧ x < 2 ^ 63 ∧ IsTup h ae zs.toArray ∧ seqIndex? 1 zs.length = some jz ∧ zs[jz]? = some (.int r t)
theorem KeyH.keeps {h h' : Heap} {u : Value} {x r : Int} (k : KeyH h u x r) (kp : ∀ b o, h.get? b = some o → h'.get? b = some o) : KeyH h' u x r := by
  obtain ⟨ap, ar, ae, is, rs, zs, j0, jx, jz, t, e1, e2, e3, e4, e5, e6, e7, e8, e9, e10, e11, e12⟩ := k
  exact ⟨ap, ar, ae, is, rs, zs, j0, jx, jz, t, e1, e2.keeps kp, e3, e4, e5.keeps kp, e6, e7, e8, e9, e10.keeps kp, e11, e12⟩
section
variable {X : Cx} {pins : List (Addr × Obj)} {σ : L2.St} {H M : Hp} {s : Shared}
end
/-- the lambda's names: its parameter kn, the captured pn -/
structure LamK (scope : Scope) (pn kn : Str) : Prop where
  kind : scope.kind = .function
  co : scope.isCoroutine = false
  gen : scope.isGenerator = false
  nocell : ∀ y ∈ scope.names, y.2 ≠ .cell
  k : scope.names.lookup kn = some .local
  p : scope.names.lookup pn = some .free
  free : ∀ y ∈ scope.names, y.2 = .free → y.1 = pn
section
variable {X : Cx} {a : Expr} {f : PEnv → Option (Bw × PEnv)} {cf : Bool} {p pos lpos kpos pp p1 p2 p3 p4 p5 p6 p7 : Pos} {j1 j2 : Nat}
end
end Me
/-! Me13t: return [.. for k, v in d.items()], d a dict of one's own with tuple keys. -/
namespace Me
open PySem PySem.Spec PyProof.Rows L2
open NdefX (TabsN NTab TabN)
open LamX (CodeO TabB ExtN)
variable [Reg]
section
variable {K : PySem.W.Frag} {H0 M0 M H : Hp} {σ : L2.St} {env : PEnv} {T : List (V × Bw)} {E : List (V × Sl)}
/-- a tuple of the heap may be read -/
theorem SAx.more (h : SAx K H0 M0 σ env T H E M) {q : Addr} {us : List V} (hq : H q = some (.tup us)) : ∃ M', SAx K H0 M0 σ env T H E M' ∧ Same M M' ∧ M' q = some (.tup us) := by
  have sm : Same M (upd M q (.tup us)) := fun b o e => by
    by_cases z : b = q
    · subst z
      have := h.hyp.sub _ _ e
      rw [hq] at this
      cases this
      exact upd_same
    · rw [upd_ne z]; exact e
  refine ⟨upd M q (.tup us), ⟨h.lv, ?_, h.bor⟩, sm, upd_same⟩
  have hy := h.hyp
  obtain ⟨As, t, n⟩ := hy.ok
  refine ⟨fun b o e => ?_, hy.low.trans sm, fun b o e => ?_, hy.old, hy.tab, hy.nt0, fun b o e => ?_, As, Trs.frame sm t fun b hb => ?_, n⟩
  · by_cases z : b = q
    · subst z; rw [upd_same] at e; cases e; exact hq
    · rw [upd_ne z] at e; exact hy.sub b o e
  · by_cases z : b = q
    · subst z; rw [upd_same] at e; cases e; exact .inr (.inr rfl)
    · rw [upd_ne z] at e; exact hy.new b o e
  · by_cases z : b = q
    · subst z; rw [upd_same] at e; cases e; rfl
    · rw [upd_ne z] at e; exact hy.ntM b o e
  · obtain ⟨q1, q2, o, q3, q4⟩ := Trs.mem t b hb
    refine ⟨?_, q2, rfl⟩
    rw [upd_ne (fun z => by rw [z, hq] at q3; cases q3; cases q4)]
    exact q1
end
section
variable {X : Cx} {L : List Nat} {elt : Expr} {scope : Scope} {own : List (Str × Nat)} {pos pos2 apos cpos p tpos : Pos} {elts : List Expr} {kk : Nat} {x : Str} {t : Tg} {fe : PEnv → Option (Bw × PEnv)} {ce : Bool}
end
end Me
/-! Me13u: a tuple that owns its list. -/
namespace Me
open PySem PySem.Spec PyProof.Rows L2
open NdefX (TabsN NTab TabN)
open LamX (CodeO TabB ExtN)
variable [Reg]

section
variable {K : PySem.W.Frag} {H0 M0 M H : Hp} {σ : L2.St} {env : PEnv} {T A B : List (V × Bw)} {E : List (V × Sl)}
end
section
variable {X : Cx} {e a : Expr} {es : List Expr} {pos p apos cpos : Pos} {x : Str} {f g : PEnv → Option (Bw × PEnv)} {fs : PEnv → Option (List Bw × PEnv)} {cf cg : Bool} {L : List Nat}
end
end Me
/-! Me13a: lists of lists; another name for a part of a tree. -/
namespace Me
open PySem PySem.Spec PyProof.Rows L2
open NdefX (TabsN NTab TabN)
open LamX (CodeO TabB ExtN)
variable [Reg]

section
variable {K : PySem.W.Frag} {H0 M0 M H : Hp} {σ : L2.St} {env : PEnv} {T A B : List (V × Bw)} {E : List (V × Sl)}
end
end Me
/-! Me13b: lists of lists: their rules. -/
namespace Me
open PySem PySem.Spec PyProof.Rows L2
open NdefX (TabsN NTab TabN)
open LamX (CodeO TabB ExtN)
variable [Reg]

/-! ### paths -/
section
variable {K : PySem.W.Frag} {H0 M0 M H : Hp} {σ : L2.St} {env : PEnv} {T A B : List (V × Bw)} {E : List (V × Sl)}
/-! ### trees of lists -/
end
section
variable {K : PySem.W.Frag} {H0 M0 M H : Hp} {σ : L2.St} {env : PEnv} {T A B C : List (V × Bw)} {E : List (V × Sl)}
end
section
variable {X : Cx} {e a o : Expr} {es : List Expr} {sts : List Stmt} {pos p apos cpos : Pos} {x : Str} {f g : PEnv → Option (Bw × PEnv)} {fs : PEnv → Option (List Bw × PEnv)} {gs : PEnv → Option Fl} {cf cg : Bool} {L : List Nat}
end
end Me
/-! Me13y: an exception that is kept beyond its clause. -/
namespace Me
open PySem PySem.Spec PyProof.Rows L2
open NdefX (TabsN NTab TabN)
open LamX (CodeO TabB ExtN)
variable [Reg]

section
variable {X : Cx} {pins : List (Addr × Obj)} {σ : L2.St} {H : Hp} {s : Shared}
end
section
variable {X : Cx} {x n : Str} {c : Value} {i : Nat} {body suite : List Stmt} {b₀ : Stmt} {np pos pos' : Pos} {tb : WX → TS} {ts : Addr → Value → Option Addr → TS} {Wout : WX}
end
/-- where a kept exception lies, its class C, its dict's fields -/
def XvAt (H : Hp) (a C : Addr) (fs : List (Str × V)) : Prop := ∃ dd, H a = some (ExV a (.ref C) (some dd)) ∧ H dd = some (.xd fs)
end Me
/-! Me13x: raising own exceptions; a def that is known to raise, called in a try. -/
namespace Me
open PySem PySem.Spec PyProof.Rows L2
open NdefX (TabsN NTab TabN)
open LamX (CodeO TabB ExtN)
variable [Reg]

section
variable {K : PySem.W.Frag} {H0 M0 M H : Hp} {σ : L2.St} {env : PEnv} {T A B : List (V × Bw)} {E : List (V × Sl)}
/-- the heap tells of one thing more -/
theorem SA.tell (h : SA K H0 M0 σ env T H) {d : Addr} {o : HO} (hd : H d = none) : SA K H0 M0 σ env T (upd H d o) := by
  obtain ⟨E, M, sx⟩ := h
  obtain ⟨A1, t1, n1, k⟩ := Hyp.openAt (E1 := []) (E2 := E ++ tents T) sx.hyp
  have sm : Same H (upd H d o) := same_new hd
  refine ⟨E, M, sx.lv, ?_, sx.bors sm fun v i π hm => hm⟩
  exact k (M' := M) (H' := upd H d o) (E1' := []) (A1' := []) (Same.refl M) (sx.same.trans sm) (fun b o e => .inl e) (fun b o _ e => sm b o e) .nil .nil (fun b hb => by cases hb)
end

/-! ### an own exception with one field -/
/-- the promise of its __init__ -/
def spI (K : PySem.W.Frag) (f : Str) : Sp := fun vs H Q _ => ∃ (a C : Addr) (v : V), vs = [.ref a, v] ∧ OexC K C ∧ PySem.W.findIn K (.ref C) f = some none ∧ H a = some (exo a C none) ∧
  ∀ d, H d = none → d ≠ a → Q .non (upd (upd H d (exd d [(f, v)])) a (exo a C (some d)))
structure ExcAt (X : Cx) (k : Nat) (c f : Str) : Prop where
  ex : ∃ (C fI : Addr) (fd : FuncData) (ps : List Str), OexC X.K C ∧ ClsAt X.K c C ∧ X.mg c = some (.ref C) ∧ PySem.W.findIn X.K (.ref C) "__init__" = some (some (.ref fI)) ∧ PySem.W.typeIn X.K (.ref fI) = some (.type "function") ∧
    FnOk X.prog X.w X.K X.mg X.base CX0 k fI fd ps (spI X.K f) ∧ Binds X.K fd ps [] ∧ PySem.W.exmOne X.K (.ref C) (.ref C) = some true ∧ PySem.W.findIn X.K (.ref C) f = some none
/-- where an exception of the class c lies: its dict holds v -/
def XcAt (K : PySem.W.Frag) (xs : List (Str × Str)) (c : Str) (C d : Addr) (v : V) (H : Hp) : Prop := ClsAt K c C ∧ ∃ f, xs.lookup c = some f ∧ H d = some (.xd [(f, v)])
/-- statements that raise -/
def tXs (K : PySem.W.Frag) (xs : List (Str × Str)) (L : List Nat) (W : WX) (f : PEnv → Option Xc) : TS := fun _ σ H => ∃ H0 M0 env T r, f env = some r ∧ (noB L T ∧ Roots T) ∧ SA K H0 M0 σ env T H ∧
  ∀ C d v σ' H', XcAt K xs r.1 C d v H' → SA K H0 M0 σ' r.2.2 (T ++ [(v, .t (.sh r.2.1))]) H' → W (.ref C) (some d) σ' H'
/-- the promise of a def that raises -/
def spX (K : PySem.W.Frag) (xs : List (Str × Str)) (ls : List Bool) (F : List Sl → Option (Sl × List Sl)) : Sp := fun vs H _ E => ∃ H0 M args c p bk, vs.length = args.length ∧ Hyp K H0 M M H (vs.zip args) ∧ F args = some (.sh (.tup [.str c, p]), bk) ∧
  ∀ C d v H', XcAt K xs c C d v H' → (∃ M', Hyp K H0 M M' H' ((v, .sh p) :: (selL ls vs).zip bk)) → E (.ref C) (some d) H'
section
variable {X : Cx} {e : Expr} {st : Stmt} {sts body : List Stmt} {pos p np : Pos} {x : Str} {f g : PEnv → Option (Bw × PEnv)} {cf : Bool} {L : List Nat} {xs : List (Str × Str)} {W : WX} {c : Expr}
theorem sx_raise {k : Nat} {cn fl : Str} (hc : X.calm = true) (tk : Takes X W) (A : ExcAt X k cn fl) (hx : xs.lookup cn = some fl) (hr : Room (k + 1) X.A) (hg : Gl X cn) (he : PE X e (tE X.K cf f)) (hdb : (cn == ("__debug__" : Str)) = false)
    (hst : starEach [e] X.env = (false, eval e X.env) :: starEach [] X.env) :
    PS X (.Raise (some (.Call (.Name cn np) [e] [] p)) none pos) (tXs X.K xs L W fun env => (f env).bind fun r => (Me.fix r.2 r.1).map fun q => (cn, q.1, q.2)) := by
  obtain ⟨C, fI, fd, ps, T, hca, hm, iC, tI, F1, hb, _, hno⟩ := A.ex
  refine PS_imp (ps_raise hc tk (pmk_oex T iC tI F1 hr hb .nil pass0 hg hm (pa_cons he pa_nil hst) hdb hst rfl)) fun D σ H q => ?_
  obtain ⟨H0, M0, env, T0, r, e1, ⟨nb, ro⟩, sa, kk⟩ := q
  obtain ⟨r1, e2, e1⟩ := ob e1
  obtain ⟨q, e3, rfl⟩ := om e1
  refine ⟨H0, M0, env, T0, r1, e2, sa, fun _ => ro, fun v H1 sa1 => ?_⟩
  refine ⟨by simp, fun a ha => ?_⟩
  have sa2 := SA.fix (B := []) sa1 e3
  refine ⟨a, C, v, rfl, T, hno, upd_same, fun d hd ne => ⟨rfl, d, [(fl, v)], upd_same, ?_, ?_, ?_⟩⟩
  · rw [upd_ne ne, upd_same]
  · rw [upd_ne ne] at hd; exact hd
  · have hd1 : H1 d = none := by rw [upd_ne ne] at hd; exact hd
    have eH : upd (del (upd (upd (upd H1 a (exo a C none)) d (exd d [(fl, v)])) a (exo a C (some d))) a) d (.xd [(fl, v)]) = upd H1 d (.xd [(fl, v)]) := by
      funext b
      by_cases hb : b = d
      · subst hb; rw [upd_same, upd_same]
      · rw [upd_ne hb, upd_ne hb]
        by_cases hba : b = a
        · subst hba; rw [del_same, ha]
        · rw [del_ne hba, upd_ne hba, upd_ne hb, upd_ne hba]
    rw [eH]
    exact kk C d v σ _ ⟨hca, fl, hx, upd_same⟩ (sa2.tell hd1)
theorem sx_none : PS X st (tXs X.K xs L W fun _ => none) := ⟨fun pins s σ H D I q => by obtain ⟨_, _, _, _, _, z, _⟩ := q; cases z⟩
theorem sx_nil : PSs X sts (tXs X.K xs L W fun _ => none) := ⟨fun pins s σ H D I q => by obtain ⟨_, _, _, _, _, z, _⟩ := q; cases z⟩
theorem sx_if {ft : PEnv → Option (Bool × PEnv)} {fa fb : PEnv → Option Xc} (hc : PT X c (tTs X.K cf ft)) (ha : PSs X sts (tXs X.K xs L W fa)) (hb : PSs X body (tXs X.K xs L W fb)) :
    PS X (.If c sts body pos) (tXs X.K xs L W fun env => (ft env).bind fun r => if r.1 then fa r.2 else fb r.2) := by
  refine PS_imp (ps_if hc ha hb) fun D σ H q => ?_
  obtain ⟨H0, M0, env, T, r, e1, ⟨nb, ro⟩, sa, k⟩ := q
  obtain ⟨r1, e2, e1⟩ := ob e1
  refine ⟨H0, M0, env, T, r1, e2, sa, fun _ => ro, fun H1 sa1 => ?_⟩
  obtain ⟨b1, env1⟩ := r1
  cases b1 with
  | true => exact ⟨H0, M0, env1, T, r, e1, ⟨nb, ro⟩, sa1, k⟩
  | false => exact ⟨H0, M0, env1, T, r, e1, ⟨nb, ro⟩, sa1, k⟩
theorem PSs_or {X : Cx} {st : List Stmt} {t t' : TS} (h : PSs X st t) (h' : PSs X st t') : PSs X st (fun D σ H => t D σ H ∨ t' D σ H) := ⟨fun pins s σ H D I q => q.elim (h.run pins s σ H D I) (h'.run pins s σ H D I)⟩
theorem sx_for {tg iter : Expr} {t : Tg} {fi : PEnv → Option (List PV × PEnv)} {fs : PEnv → Option Fl} {fx : PEnv → Option Xc} (hp : PassesOwn (model X.prog X.w) X.A X.env X.xe) (hc : X.calm = true) (hi : PI X tg iter (tIs X.K cf fi)) (ht : ∀ i ∈ tgSl t, i ∉ L) (hg : PG X tg (gT X.K t))
    (hbx : PSs X body (tXs X.K xs L W fx)) (hb : PSs X body (tSs X.K L fs)) (hs : ∀ x, foldedSetIterable iter X.env x = pure x) :
    PS X (.For tg iter body [] pos) (tXs X.K xs L W fun env => (fi env).bind fun r => forX (fun p e => (bindT t p e).bind fun e1 => fs e1) (fun p e => (bindT t p e).bind fun e1 => fx e1) r.1 r.2) := by
  refine PS_imp (ps_for hp hc hi hg (PSs_or hbx hb) hs) fun D σ H q => ?_
  obtain ⟨H0, M0, env, T, r', e, ⟨nb, ro⟩, sa, k⟩ := q
  obtain ⟨r1, e1, e⟩ := ob e
  refine ⟨H0, M0, env, T, r1, e1, sa, fun _ => ro, fun J H1 S nbS sa1 wk => ?_⟩
  have nb2 : noB L (T ++ S) := nb.append fun v i π h => absurd (nbS v i π h) (by simp)
  have ro2 : Roots (T ++ S) := ro.append fun v i π h => absurd (nbS v i π h) (by simp)
  refine ⟨fun i m σ' H' => m = r1.1.length - i ∧ i ≤ r1.1.length ∧ ∃ env', SA X.K H0 M0 σ' env' (T ++ S) H' ∧ forX (fun p e => (bindT t p e).bind fun e1 => fs e1) (fun p e => (bindT t p e).bind fun e1 => fx e1) (r1.1.drop i) env' = some r', ⟨r1.1.length, by simp, Nat.zero_le _, _, sa1, by simpa using e⟩, ?_⟩
  rintro i m σ2 H2 ⟨rfl, hi, env', sa3, ec⟩
  by_cases hlt : i < r1.1.length
  · have hd : r1.1.drop i = r1.1[i] :: r1.1.drop (i + 1) := List.drop_eq_getElem_cons hlt
    rw [hd] at ec
    obtain ⟨go, yl⟩ := (wk i _ _ _ _ (fun e he => List.mem_append_right _ he) sa3).1 r1.1[i] (List.getElem?_eq_getElem hlt)
    refine .inr ⟨go, fun σ' H' => i + 1 ≤ r1.1.length ∧ ∃ env', SA X.K H0 M0 σ' env' (T ++ S) H' ∧ forX (fun p e => (bindT t p e).bind fun e1 => fs e1) (fun p e => (bindT t p e).bind fun e1 => fx e1) (r1.1.drop (i + 1)) env' = some r',
      fun σ' H' ⟨h1, h2⟩ => ⟨_, by omega, rfl, h1, h2⟩, fun x H' yy => ?_⟩
    have sa4 : SA X.K H0 M0 σ2 env' (T ++ S ++ [(x, .t (.sh r1.1[i]))]) H' := by simpa using yl x H' yy
    rw [forX] at ec
    cases hb1 : bindT t r1.1[i] env' with
    | none =>
      rw [hb1] at ec
      cases ec
    | some b1 =>
      rw [hb1] at ec
      refine bind_ok hb1 sa4 (fun j hj => nb2.not (ht j hj)) fun σ3 sa5 _ _ => ?_
      cases hx : fx b1 with
      | some r =>
        have ec : (match fx b1 with
          | some r => some r
          | none => (fs b1).bind fun r => match r with
            | .next e => forX (fun p e => (bindT t p e).bind fun e1 => fs e1) (fun p e => (bindT t p e).bind fun e1 => fx e1) (r1.1.drop (i + 1)) e
            | _ => none) = some r' := ec
        rw [hx] at ec
        cases ec
        exact .inl ⟨H0, M0, b1, _, _, hx, ⟨nb2, ro2⟩, sa5, fun C d v σ' H' hX sa' => k C d v σ' H' hX (SA.mid (T := T) (A := S) sa')⟩
      | none =>
        have ec : (match fx b1 with
          | some r => some r
          | none => (fs b1).bind fun r => match r with
            | .next e => forX (fun p e => (bindT t p e).bind fun e1 => fs e1) (fun p e => (bindT t p e).bind fun e1 => fx e1) (r1.1.drop (i + 1)) e
            | _ => none) = some r' := ec
        rw [hx] at ec
        obtain ⟨st, es, ec⟩ := ob ec
        refine .inr ⟨H0, M0, b1, _, st, es, ⟨nb2, ro2⟩, sa5, ?_⟩
        cases st with
        | next e2 => exact fun σ' H' sa' => ⟨hlt, e2, sa', ec⟩
        | ret v e2 => cases ec
        | brk e2 => cases ec
  · have e0 : i = r1.1.length := by omega
    subst e0
    rw [List.drop_length] at ec
    cases ec
theorem sx_cons {fx gx : PEnv → Option Xc} {fs : PEnv → Option Fl} (hx : PS X st (tXs X.K xs L W fx)) (h1 : PS X st (tSs X.K L fs)) (h2 : PSs X sts (tXs X.K xs L W gx)) :
    PSs X (st :: sts) (tXs X.K xs L W fun env => match fx env with
      | some r => some r
      | none => (fs env).bind fun fl => match fl with
        | .next e => gx e
        | _ => none) := by
  refine PSs_imp (pss_cons (PS_or hx h1) h2) fun D σ H q => ?_
  obtain ⟨H0, M0, env, T, r, e1, ⟨nb, ro⟩, sa, k⟩ := q
  dsimp only at e1
  cases hf : fx env with
  | some r' =>
    rw [hf] at e1
    cases e1
    exact .inl ⟨H0, M0, env, T, r, hf, ⟨nb, ro⟩, sa, k⟩
  | none =>
    rw [hf] at e1
    obtain ⟨fl, e2, e1⟩ := ob e1
    cases fl with
    | next e => exact .inr ⟨H0, M0, env, T, .next e, e2, ⟨nb, ro⟩, sa, fun σ' H' sa' => ⟨H0, M0, e, T, r, e1, ⟨nb, ro⟩, sa', k⟩⟩
    | ret v e => cases e1
    | brk e => cases e1
end


/-! ### a def that is known to raise, called in a try; the exception is kept -/
section
variable {K : PySem.W.Frag} {H0 M0 H : Hp} {σ : L2.St} {env : PEnv} {T : List (V × Bw)}
end
/-- a def that raises -/
structure FnX (X : Cx) (k : Nat) (x : Str) (xs : List (Str × Str)) (ls : List Bool) (F : List Sl → Option (Sl × List Sl)) : Prop where
  ex : ∃ (fa : Addr) (fd : FuncData) (ps : List Str), X.mg x = some (.ref fa) ∧ PySem.W.keepIn X.K (.ref fa) = true ∧ FnOk X.prog X.w X.K X.mg X.base (L2.CX X.prog X.w) k fa fd ps (spX X.K xs ls F) ∧ Binds X.K fd ps []
section
variable {X : Cx} {e0 : Expr} {es : List Expr} {pos p cpos epos np np2 pos' py ap : Pos} {x y n : Str} {fs : PEnv → Option (List Bw × PEnv)} {cg : Bool} {L : List Nat} {xs : List (Str × Str)}
end

/-! ### a method that is known to raise, its object lent -/
section
variable {K : PySem.W.Frag} {H0 M0 H : Hp} {σ : L2.St} {env : PEnv} {T : List (V × Bw)}
end
/-- a method that raises -/
structure MethX (X : Cx) (k : Nat) (c m : Str) (xs : List (Str × Str)) (ls : List Bool) (F : List Sl → Option (Sl × List Sl)) : Prop where
  ex : ∃ (C fa : Addr) (fd : FuncData) (ps : List Str), ClsAt X.K c C ∧ Cls X.K C ∧ Meth X.K C m fa ∧ FnOk X.prog X.w X.K X.mg X.base (L2.CX X.prog X.w) k fa fd ps (spX X.K xs ls F) ∧ Binds X.K fd ps []
section
variable {X : Cx} {CX : CXT} {k : Nat} {f C : Addr} {fd : FuncData} {ps : List Str} {sp : Sp} {W : L2.St → XK} {o e0 : Expr} {es : List Expr} {m : Str} {apos pos : Pos} {ta : TE} {t : TA}
end
section
variable {X : Cx} {e0 o : Expr} {es : List Expr} {pos p cpos epos np np2 pos' py ap apos : Pos} {y n m : Str} {f fs : PEnv → Option (Bw × PEnv)} {cf cg : Bool} {L : List Nat} {xs : List (Str × Str)}
end

/-! ### isinstance, a field -/
theorem SlOk.exc {K : PySem.W.Frag} {H0 M H : Hp} {v : V} {s : Sl} {c f : Str} {p : PV} (h : SlOk K H0 M H v s) (e : s.pv = .exc c f p) (sm : Same M H) : ∃ (a C : Addr) (w : V), v = .ref a ∧ XvAt H a C [(f, w)] ∧ ClsAt K c C ∧ Rep K M w p := by
  obtain ⟨⟨A, t⟩, nt⟩ := h
  cases t with
  | sh r =>
    have e' : _ = PV.exc c f p := e
    subst e'
    cases r with
    | exc h1 h2 h3 h4 => exact ⟨_, _, _, rfl, ⟨_, sm _ _ h1, sm _ _ h2⟩, h3, h4⟩
  | own => cases e
  | nst => cases e
  | dK => cases e
  | dT => cases e
  | ins => cases e
  | tpl => cases e
/-- what isinstance(e, t) answers, by e's class -/
structure IsxAt (X : Cx) (t : Str) (tb : List (Str × Bool)) : Prop where
  ex : ∃ (v : V) (u : Value), RelV v u ∧ (∀ u', RelV v u' → u' = u) ∧ (X.mg t = some u ∨ (X.mg t = none ∧ bootBuiltins t = some u ∧ t ≠ "__name__")) ∧ ∀ c b, tbF tb c = some b → ∃ C, ClsAt X.K c C ∧ ExcC X.K C ∧ PySem.W.kitOne X.K (.ref C) u = some b
structure AttxAt (X : Cx) (c f : Str) : Prop where
  ex : ∃ C, ClsAt X.K c C ∧ XfC X.K C ∧ PySem.W.findIn X.K (.ref C) f = some none
section
variable {X : Cx} {a : Expr} {f : PEnv → Option (Bw × PEnv)} {cf : Bool} {p p2 pos : Pos}
end
/-! ### for x in o: y = y | x, where o stays owned -/
section
variable {K : PySem.W.Frag} {H0 M0 H : Hp} {σ : L2.St} {env : PEnv} {T : List (V × Bw)}
theorem getDO_ne {env : PEnv} {i j : Nat} {x : Option Sl} (h : i ≠ j) : (env.set i x).getD j none = env.getD j none := by
  rw [List.getD_eq_getElem?_getD, List.getD_eq_getElem?_getD, List.getElem?_set_ne h]
theorem getDO_eq {env : PEnv} {i : Nat} {x : Option Sl} (h : i < env.length) : (env.set i x).getD i none = x := by
  rw [List.getD_eq_getElem?_getD, List.getElem?_set_self h]; rfl
theorem slb_set {env : PEnv} {i j : Nat} {π : List Nat} {x : Option Sl} (h : i ≠ j) : slb (env.set i x) (.b j π) = slb env (.b j π) := by
  show ((env.set i x).getD j none).bind _ = (env.getD j none).bind _
  rw [getDO_ne h]
/-- an owned list of ints that is borrowed -/
theorem SA.intsO {a0 : V} {i : Nat} {π : List Nat} {xs : List PV} {ns : List Int} (sa : SA K H0 M0 σ env (T ++ [(a0, .b i π)]) H) (h : slb env (.b i π) = some (.own xs)) (hn : asInts xs = some ns) : ∃ a, a0 = .ref a ∧ SqL K H a (ns.map V.int) := by
  obtain ⟨E, M, sx⟩ := sa
  obtain ⟨a, vs, rfl, h1, r1, _⟩ := (sx.get (v := a0) (by simp) h).lst (ps := xs) rfl sx.same
  rw [asInts_ok hn] at r1
  rw [r1.ints] at h1
  exact ⟨a, rfl, h1⟩
end
section
variable {X : Cx} {tg iter : Expr} {body : List Stmt} {pos : Pos} {f fe : PEnv → Option (Bw × PEnv)} {cf : Bool} {L : List Nat}
theorem ss_orO {j w : Nat} (hp : PassesOwn (model X.prog X.w) X.A X.env X.xe) (hc : X.calm = true) (ho : PE X iter (tE X.K cf f)) (hg : PG X tg (gName w)) (hb : PSs X body (fun D σ H => tE X.K true fe σ H fun x H1 => D.nx (σ.set j (some x)) H1)) (hs : ∀ x, foldedSetIterable iter X.env x = pure x) (jL : j ∉ L) (wL : w ∉ L)
    (hfe : ∀ env a n, env.getD j none = some (.sh (.int a)) → env.getD w none = some (.sh (.int n)) → fe env = some (.t (.sh (.int (Builtin.bitOr a n))), env)) :
    PS X (.For tg iter body [] pos) (tSs X.K L fun env => (f env).bind fun r => orB j w r.2 r.1) := by
  refine PS_imp (ps_for hp hc (pi_list ho) hg hb hs) fun D σ H q => ?_
  obtain ⟨H0, M0, env, T, r', e, ⟨nb, ro⟩, sa, k⟩ := q
  obtain ⟨r1, e1, e⟩ := ob e
  obtain ⟨b1, env1⟩ := r1
  dsimp only at e
  unfold orB at e
  split at e
  · rename_i i π xs a hj0 hsl
    split at e
    · rename_i hne
      obtain ⟨⟨ij, iw⟩, jw, lj, lw⟩ := hne
      obtain ⟨ns, hn, rfl⟩ := om e
      have lxs : xs.length = ns.length := by rw [asInts_ok hn, List.length_map]
      refine ⟨H0, M0, env, T, _, e1, sa, fun _ => ro, fun v H' sa' => ?_⟩
      obtain ⟨a0, rfl, h1⟩ := SA.intsO sa' hsl hn
      refine ⟨a0, rfl, ⟨_, h1⟩, ?_⟩
      refine ⟨fun ix m σ' H' => m = ns.length - ix ∧ ix ≤ ns.length ∧ ∃ env' acc, SA X.K H0 M0 σ' env' (T ++ [(.ref a0, .b i π)]) H' ∧ slb env' (.b i π) = some (.own xs) ∧ env'.getD j none = some (.sh (.int acc)) ∧ env'.length = env1.length ∧ orE j w env' acc (ns.drop ix) = orE j w env1 a ns,
        ⟨ns.length, by simp, Nat.zero_le _, env1, a, sa', hsl, hj0, rfl, rfl⟩, ?_⟩
      rintro ix m σ2 H2 ⟨rfl, hi, env', acc, sa3, s3, g3, l3, o3⟩
      obtain ⟨a2, e2, hq⟩ := SA.intsO sa3 s3 hn
      cases e2
      by_cases hlt : ix < ns.length
      · have hd : ns.drop ix = ns[ix] :: ns.drop (ix + 1) := List.drop_eq_getElem_cons hlt
        have hget : (ns.map V.int)[ix]? = some (V.int ns[ix]) := by rw [List.getElem?_map, List.getElem?_eq_getElem hlt]; rfl
        refine .inr ⟨⟨_, _, hq, hget⟩, fun σ' H' => ix + 1 ≤ ns.length ∧ ∃ env' acc, SA X.K H0 M0 σ' env' (T ++ [(.ref a0, .b i π)]) H' ∧ slb env' (.b i π) = some (.own xs) ∧ env'.getD j none = some (.sh (.int acc)) ∧ env'.length = env1.length ∧ orE j w env' acc (ns.drop (ix + 1)) = orE j w env1 a ns, fun σ' H' ⟨q1, q2⟩ => ⟨_, by omega, rfl, q1, q2⟩, fun x H' yy => ?_⟩
        obtain ⟨rfl, q⟩ := yy
        have ex := (q _ hq).symm.trans hget
        cases ex
        have nbw : ∀ v π', (v, Bw.b w π') ∉ T ++ [((V.ref a0 : V), Bw.b i π)] := fun v π' hm => by
          rcases List.mem_append.mp hm with z | z
          · exact nb.not wL v π' z
          · simp at z; exact iw z.2.1.symm
        have nbj : ∀ v π', (v, Bw.b j π') ∉ T ++ [((V.ref a0 : V), Bw.b i π)] := fun v π' hm => by
          rcases List.mem_append.mp hm with z | z
          · exact nb.not jL v π' z
          · simp at z; exact ij z.2.1.symm
        obtain ⟨E4, M4, sx4⟩ := sa3
        have sa4 : SA X.K H0 M0 (σ2.set w (some (V.int ns[ix]))) (env'.set w (some (.sh (.int ns[ix])))) (T ++ [((V.ref a0 : V), Bw.b i π)]) _ := SA.set' (sx4.push (.int _)) nbw
        have gj : (env'.set w (some (.sh (.int ns[ix])))).getD j none = some (.sh (.int acc)) := by rw [getDO_ne (Ne.symm jw)]; exact g3
        have gw : (env'.set w (some (.sh (.int ns[ix])))).getD w none = some (.sh (.int ns[ix])) := getDO_eq (by rw [l3]; exact lw)
        refine ⟨H0, M0, _, _, _, hfe _ acc ns[ix] gj gw, sa4, fun h => (by cases h), fun x1 H1 sa5 => ?_⟩
        refine ⟨hlt, _, Builtin.bitOr acc ns[ix], SA.set' sa5 nbj, ?_, ?_, ?_, ?_⟩
        · rw [slb_set (Ne.symm ij), slb_set (Ne.symm iw)]; exact s3
        · exact getDO_eq (by rw [List.length_set, l3]; exact lj)
        · rw [List.length_set, List.length_set]; exact l3
        · rw [hd] at o3
          rw [← o3]
          rfl
      · have e0 : ix = ns.length := by omega
        subst e0
        rw [List.drop_length] at o3
        refine .inl ⟨⟨_, hq, by rw [List.length_map]; exact Nat.le_refl _⟩, ?_⟩
        have o4 : env' = orE j w env1 a ns := o3
        rw [← o4] at k
        exact k _ _ sa3.left
    · cases e
  · cases e
end
end Me
/-! Me14: does a text say what the small language says (chk)? then it does it (sound). -/
namespace Me
open PySem PySem.Spec PyProof.Rows L2
open NdefX (TabsN NTab TabN)
open LamX (CodeO TabB ExtN)
variable [Reg]

noncomputable def nm (x y : Str) : Bool := decide (x = y)
noncomputable def okName (x : Str) : Bool := !(x == ("__debug__" : Str)) && !(x == ("__classdict__" : Str)) && !nm x "__name__"
noncomputable def visB (sc : Scope) (x : Str) : Bool := match sc.names.lookup x with
  | some .local => true | some .cell => true | some .free => true | _ => false
noncomputable def locB (sc : Scope) (x : Str) : Bool := match sc.names.lookup x with
  | some .local => true | some .cell => true | _ => false
noncomputable def glB (sc : Scope) (x : Str) : Bool := match sc.names.lookup x with
  | some .globalImplicit => true | _ => false
noncomputable def slotB (N : List Str) (sc : Scope) (i : Nat) (x : Str) : Bool := decide (N[i]? = some x) && visB sc x && okName x
noncomputable def pvB : PV → PV → Bool
  | .int i, .int j => decide (i = j)
  | .str i, .str j => decide (i = j)
  | _, _ => false
noncomputable def notStar : Expr → Bool
  | .Starred _ _ => false | _ => true
noncomputable def notSlice : Expr → Bool
  | .Slice _ _ _ _ => false | _ => true
noncomputable def notSet : Expr → Bool
  | .Set _ _ _ => false | _ => true
noncomputable def notComp : Expr → Bool
  | .ListComp _ _ _ _ => false | .SetComp _ _ _ _ => false | .DictComp _ _ _ _ _ => false | _ => true
noncomputable def notCall0 : Expr → Bool
  | .Call _ [] _ _ => false | _ => true
noncomputable def plainT : Expr → Bool
  | .UnaryOp .Not _ _ => false | .BoolOp _ _ _ => false | .IfExp _ _ _ _ => false | .Compare _ _ _ _ => false | _ => true
noncomputable def tgB (sc : Scope) (N : List Str) : Tg → Expr → Bool
  | .name i, .Name x _ => decide (N[i]? = some x) && locB sc x
  | .tup is, .Tuple es _ _ => go is es
  | _, _ => false
where go : List Nat → List Expr → Bool
  | [], [] => true
  | i :: is, .Name x _ :: es => decide (N[i]? = some x) && locB sc x && go is es
  | _, _ => false
noncomputable def isTup : Expr → Bool
  | .Tuple _ _ _ => true | _ => false
noncomputable def isiTys : List String := ["tuple", "list", "bool", "int", "str", "dict"]

/-- what is told of the text's classes: their names; names of fields, which no class has; methods; __init__; isinstance -/
structure Tb where
  cs : List Str
  fl : List Str
  mt : List ((Str × Str) × Nat)
  nw : List (Str × Nat)
  isa : List ((Str × Str) × Bool)
  /-- of a def that gives functions back: what their names begin with -/
  gq : Option Str
  /-- exception classes, each with its field; names that isinstance asks of caught exceptions, with its answers by class -/
  xs : List (Str × Str)
  xi : List (Str × List (Str × Bool))
  /-- methods where they raise -/
  mx : List ((Str × Str) × Nat)
  /-- methods whose one more parameter has a default -/
  df : List (Nat × Int)
noncomputable def inB {α : Type} [DecidableEq α] (l : List α) (x : α) : Bool := l.any fun y => decide (y = x)
theorem inB_iff {α : Type} [DecidableEq α] {l : List α} {x : α} (h : inB l x = true) : x ∈ l := by
  obtain ⟨y, h1, h2⟩ := List.any_eq_true.mp h
  rw [← of_decide_eq_true h2]
  exact h1
noncomputable def lenEs : Es → Nat
  | .nil => 0
  | .cons _ es => lenEs es + 1
noncomputable def lentIs (P : List Fn) (g : Nat) (ls : List Bool) : Bool := match P[g]? with
  | some f => decide (f.lent = ls) | none => false
noncomputable def noLent (P : List Fn) (g : Nat) : Bool := match P[g]? with
  | some f => f.lent.all (!·) | none => false
noncomputable def fnIs (P : List Fn) (g : Nat) (x : Str) : Bool := match P[g]? with
  | some f => nm f.name x && f.top | none => false
section
variable (P : List Fn) (G : List (Str × PV)) (D : Tb) (N : List Str) (L : List Nat)
mutual
noncomputable def chk (sc : Scope) : E → Expr → Bool
  | .var i, e => match e with | .Name x _ => slotB N sc i x | _ => false
  | .non, e => match e with | .Constant .none _ _ => true | _ => false
  | .bl b, e => match e with | .Constant (.bool c) _ _ => b == c | _ => false
  | .int i, e => match e with | .Constant (.int j) _ _ => decide (i = j) | _ => false
  | .str s, e => match e with | .Constant (.str t) _ _ => nm s t | _ => false
  | .glob x p, e => match e with | .Name y _ => nm x y && glB sc x && okName x && G.any fun g => nm g.1 x && pvB g.2 p | _ => false
  | .bin op a b, e => match e with | .BinOp x o y _ => decide (o = op) && chk sc a x && chk sc b y | _ => false
  | .neg a, e => match e with | .UnaryOp .USub x _ => chk sc a x | _ => false
  | .cmp op a b, e => match e with | .Compare x [o] [y] _ => decide (o = op) && notSet y && chk sc a x && chk sc b y | _ => false
  | .chain op op' a b c, e => match e with | .Compare x [o, o'] [y, z] _ => decide (o = op) && decide (o' = op') && notSet z && chk sc a x && chk sc b y && chk sc c z | _ => false
  | .and a b, e => match e with
    | .BoolOp .And [x, y] _ => chk sc a x && chk sc b y
    | .BoolOp .And (x :: y :: z :: r) pos => chk sc a x && chk sc b (.BoolOp .And (y :: z :: r) pos)
    | _ => false
  | .or a b, e => match e with
    | .BoolOp .Or [x, y] _ => chk sc a x && chk sc b y
    | .BoolOp .Or (x :: y :: z :: r) pos => chk sc a x && chk sc b (.BoolOp .Or (y :: z :: r) pos)
    | _ => false
  | .not a, e => match e with | .UnaryOp .Not x _ => chk sc a x | _ => false
  | .ife c a b, e => match e with | .IfExp t x y _ => chkT sc c t && chk sc a x && chk sc b y | _ => false
  | .ix a b, e => match e with | .Subscript x y _ => notSlice y && chk sc a x && chk sc b y | _ => false
  | .slc a lo hi, e => match e with | .Subscript x (.Slice l h none _) _ => chk sc a x && chkO sc lo l && chkO sc hi h | _ => false
  | .tup es, e => match e with | .Tuple xs _ _ => chkEs sc es xs | _ => false
  | .lst es, e => match e with | .List xs _ => chkEs sc es xs | _ => false
  | .call g es, e => match e with | .Call (.Name x _) (y :: ys) [] _ => fnIs P g x && noLent P g && glB sc x && okName x && chkEs sc es (y :: ys) | _ => false
  | .att o f cs, e => match e with | .Attribute x a _ => nm f a && inB D.fl f && cs.all (fun c => inB D.cs c) && notCall0 x && chk sc o x | _ => false
  | .mcall o m tb es, e => match e with
    | .Call (.Attribute x a apos) ys [] cpos => nm m a && tb.all (fun t => inB D.mt ((t.1, m), t.2) && noLent P t.2) && (apos.endLine == cpos.line) && notCall0 x && decide (ys.length < 30) && chk sc o x && chkEs sc es ys
    | _ => false
  | .lmcall o m tb es, e => match e with
    | .Call (.Attribute x a apos) ys [] cpos => nm m a && tb.all (fun t => inB D.mt ((t.1, m), t.2) && lentIs P t.2 (true :: List.replicate (lenEs es) false)) && (apos.endLine == cpos.line) && notCall0 x && decide (ys.length < 30) && chk sc o x && chkEs sc es ys
    | _ => false
  | .new c g es, e => match e with | .Call (.Name x _) ys [] _ => nm c x && inB D.nw (c, g) && lentIs P g (true :: List.replicate (lenEs es) false) && glB sc x && okName x && chkEs sc es ys | _ => false
  | .wall, _ => true
  | .blt f es, e => match e with | .Call (.Name x _) (y :: ys) [] _ => nm (f : Str) x && (bTypes ++ bFuns).contains f && glB sc x && okName x && chkEs sc es (y :: ys) | _ => false
  | .isi a ty, e => match e with | .Call (.Name x _) [y, .Name t _] [] _ => nm x "isinstance" && nm (ty : Str) t && isiTys.contains ty && glB sc x && glB sc t && okName t && notStar y && chk sc a y | _ => false
  | .meth m a b, e => match e with | .Call (.Attribute x at_ apos) [y] [] cpos => nm (m : Str) at_ && (["join", "find", "split"] : List String).contains m && (apos.endLine == cpos.line) && notCall0 x && notStar y && chk sc a x && chk sc b y | _ => false
  | .comp elt t own it cd, e => match e with
    | .ListComp x [⟨tg, iter, ifs, 0⟩] scope _ => blkC N sc scope own && (tgSl t).all (fun i => (own.map (·.2)).contains i) && notSet iter && tgB scope N t tg && chkI sc it tg iter && chkC (relS scope sc) cd ifs && chk (relS scope sc) elt x
    | _ => false
noncomputable def chkO (sc : Scope) : O → Option Expr → Bool
  | .no, e => match e with | none => true | _ => false
  | .some a, e => match e with | some x => chk sc a x | _ => false
noncomputable def chkC (sc : Scope) : C → List Expr → Bool
  | .yes, e => match e with | [] => true | _ => false
  | .on t, e => match e with | [x] => chkT sc t x | _ => false
noncomputable def chkEs (sc : Scope) : Es → List Expr → Bool
  | .nil, e => match e with | [] => true | _ => false
  | .cons a as, e => match e with | x :: xs => notStar x && chk sc a x && chkEs sc as xs | _ => false
noncomputable def chkT (sc : Scope) : T → Expr → Bool
  | .val a, e => plainT e && chk sc a e
  | .cmp op a b, e => match e with | .Compare x [o] [y] _ => decide (o = op) && notSet y && chk sc a x && chk sc b y | _ => false
  | .chain op op' a b c, e => match e with | .Compare x [o, o'] [y, z] _ => decide (o = op) && decide (o' = op') && notSet z && chk sc a x && chk sc b y && chk sc c z | _ => false
  | .and a b, e => match e with
    | .BoolOp .And [x, y] _ => chkT sc a x && chkT sc b y
    | .BoolOp .And (x :: y :: z :: r) pos => chkT sc a x && chkT sc b (.BoolOp .And (y :: z :: r) pos)
    | _ => false
  | .or a b, e => match e with
    | .BoolOp .Or [x, y] _ => chkT sc a x && chkT sc b y
    | .BoolOp .Or (x :: y :: z :: r) pos => chkT sc a x && chkT sc b (.BoolOp .Or (y :: z :: r) pos)
    | _ => false
  | .not a, e => match e with | .UnaryOp .Not x _ => chkT sc a x | _ => false
noncomputable def chkI (sc : Scope) : I → Expr → Expr → Bool
  | .val a, _, e => chk sc a e
  | .range1 a, _, e => match e with | .Call (.Name x _) [y] [] _ => nm x "range" && glB sc x && notStar y && chk sc a y | _ => false
  | .enum a, tg, e => match e with | .Call (.Name x _) [y] [] _ => isTup tg && nm x "enumerate" && glB sc x && notStar y && chk sc a y | _ => false
  | .zip a b, tg, e => match e with | .Call (.Name x _) [y, z] [] _ => isTup tg && nm x "zip" && glB sc x && notStar y && notStar z && chk sc a y && chk sc b z | _ => false
end
/-- y = [..] where the store comes within the comprehension -/
noncomputable def swapB (sc : Scope) (y : Str) (py pos : Pos) (scope : Scope) : Bool :=
  (match sc.names.lookup y with | some .local => true | _ => false) && (py.line == pos.line) && !(scope.names.any fun (n, k) => n == y && (k == .local || k == .cell))
noncomputable def cellB (sc : Scope) (y : Str) : Bool := match sc.names.lookup y with | some .cell => true | _ => false
mutual
noncomputable def chkS [RegS] (L : List Nat) (sc : Scope) : S → Stmt → Bool
  | .wall, _ => true
  | .pass, s => match s with | .Pass _ => true | _ => false
  | .set i a, s => match s with
    | .Assign [.Name y py] v pos => !L.contains i && decide (N[i]? = some y) && locB sc y && chk P G D N sc a v && (notComp v || (match v with | .ListComp _ _ scope vpos => cellB sc y || swapB sc y py vpos scope | _ => false))
    | _ => false
  | .expr a, s => match s with | .Expr v _ => notComp v && chk P G D N sc a v | _ => false
  | .ret l a, s => match s with | .Return (some v) _ => decide (l = L) && chk P G D N sc a v | _ => false
  | .retN, s => match s with | .Return none _ => true | _ => false
  | .ife c a b, s => match s with | .If t x y _ => chkT P G D N sc c t && chkSs L sc a x && chkSs L sc b y | _ => false
  | .for t it b, s => match s with | .For tg iter x [] _ => (tgSl t).all (fun i => !L.contains i) && notSet iter && tgB sc N t tg && chkI P G D N sc it tg iter && chkSs L sc b x | _ => false
  | .app o a, s => match s with | .Expr (.Call (.Attribute y at_ apos) [x] [] cpos) _ => nm at_ "append" && notCall0 y && notStar x && (apos.endLine == cpos.line) && chk P G D N sc o y && chk P G D N sc a x | _ => false
  | .stx o k a, s => match s with | .Assign [.Subscript y x _] v _ => notComp v && notSlice x && chk P G D N sc o y && chk P G D N sc k x && chk P G D N sc a v | _ => false
  | .pop o, s => match s with | .Expr (.Call (.Attribute y at_ apos) [] [] cpos) _ => nm at_ "pop" && notCall0 y && (apos.endLine == cpos.line) && chk P G D N sc o y | _ => false
  | .fld o f cs a, s => match s with | .Assign [.Attribute y at_ _] v _ => nm f at_ && inB D.fl f && cs.all (fun c => inB D.cs c) && notComp v && chk P G D N sc o y && chk P G D N sc a v | _ => false
  | .brk, s => match s with | .Break _ => true | _ => false
  | .raise _ _, _ => true
  | .orO j w o, s => match s with
    | .For tg iter [.Assign [.Name jn _] x _] [] _ => notSet iter && (tgB sc N (.name w) tg && (chk P G D N sc o iter && (!L.contains j && (!L.contains w && (decide (N[j]? = some jn) && (locB sc jn && (notComp x && chk P G D N sc (.bin .BitOr (.var j) (.var w)) x)))))))
    | _ => false
noncomputable def chkSs [RegS] (L : List Nat) (sc : Scope) : Ss → List Stmt → Bool
  | .nil, s => match s with | [] => true | _ => false
  | .cons a as, s => match s with | x :: xs => chkS L sc a x && chkSs L sc as xs | _ => false
end
end

/-! ### facts of the looks -/
theorem nm_eq {x y : Str} (h : nm x y = true) : x = y := of_decide_eq_true h
theorem okName_iff {x : Str} (h : okName x = true) : (x == ("__debug__" : Str)) = false ∧ (x == ("__classdict__" : Str)) = false ∧ x ≠ "__name__" := by
  unfold okName at h
  simp only [Bool.and_eq_true, Bool.not_eq_true'] at h
  exact ⟨h.1.1, h.1.2, of_decide_eq_false h.2⟩
theorem visB_iff {sc : Scope} {x : Str} (h : visB sc x = true) : Vis sc x := by
  unfold visB at h
  split at h
  · exact .inl (by assumption)
  · exact .inr (.inl (by assumption))
  · exact .inr (.inr (by assumption))
  · cases h
theorem locB_iff {sc : Scope} {x : Str} (h : locB sc x = true) : Loc sc x := by
  unfold locB at h
  split at h
  · exact .inl (by assumption)
  · exact .inr (by assumption)
  · cases h
theorem glB_iff {sc : Scope} {x : Str} (h : glB sc x = true) : sc.names.lookup x = some .globalImplicit := by
  unfold glB at h
  split at h
  · assumption
  · cases h
theorem star_eq {e : Expr} {es : List Expr} {env : Env} (h : notStar e = true) : starEach (e :: es) env = (false, eval e env) :: starEach es env := by
  cases e <;> first | rfl | cases h
theorem marks_eq {op : CmpOp} {e : Expr} (h : notSet e = true) : behindInMarks op e = false := by
  cases e <;> first | rfl | cases h
theorem last_eq {op op' : CmpOp} {e e' : Expr} (h : notSet e' = true) : lastMarks [op, op'] [e, e'] = false := by
  have : lastMarks [op, op'] [e, e'] = behindInMarks op' e' := by with_unfolding_all rfl
  rw [this]; exact marks_eq h
theorem slice_eq {e : Expr} (h : notSlice e = true) : PlainIx e := fun o i => by
  cases e <;> first | rfl | cases h
theorem set_eq {e : Expr} {env : Env} (h : notSet e = true) : ∀ x, foldedSetIterable e env x = pure x := fun x => by
  cases e <;> first | rfl | cases h
theorem plain_eq {e : Expr} {env : Env} (h : plainT e = true) : ∀ whole, isTrue e env whole = (do let v ← whole; standAt e.pos; holding [v] (truthy v)) := fun whole => by
  cases e with
  | UnaryOp op _ _ => cases op <;> first | rfl | cases h
  | _ => first | rfl | cases h
theorem base_eq {e : Expr} {m : Str} {env : Env} {whole : Sem Value} (h : notCall0 e = true) : attributeBase e m env whole = whole := by
  cases e with
  | Call f as ks p =>
    cases as with
    | nil => cases h
    | cons a as => cases f <;> rfl
  | _ => rfl
theorem swap_eq {e : Expr} {o : Option Expr} {n : Nat} {env : Env} (h : notComp e = true) : swapsWith e o n env = pure false := by
  cases e <;> first | rfl | cases h
theorem stores_eq {x : Str} {p : Pos} {e : Expr} {env : Env} : swappedStores [.Name x p] e env = pure none := by
  cases e <;> rfl
theorem stores_eq2 {a b : Expr} {p : Pos} {e : Expr} {env : Env} : swappedStores [.Subscript a b p] e env = pure none := by
  cases e <;> rfl
theorem boot_ty {ty : String} (h : isiTys.contains ty = true) : bootBuiltins (ty : Str) = some (.type ty) := by
  simp only [isiTys, List.contains_cons, List.contains_nil, Bool.or_eq_true, beq_iff_eq, Bool.or_false] at h
  rcases h with rfl | rfl | rfl | rfl | rfl | rfl <;> decide +kernel
theorem any_len {es : List Expr} {env : Env} {pos : Pos} (h : ∀ e ∈ es, notStar e = true) : (backTo pos (starEach es env)).any (·.1) = false := by
  induction es with
  | nil => rfl
  | cons e es ih =>
    rw [star_eq (h e List.mem_cons_self)]
    show (false || (backTo pos (starEach es env)).any (·.1)) = false
    rw [ih fun e he => h e (List.mem_cons_of_mem _ he)]
    rfl

/-! ### where one stands -/
structure CtxE (X : Cx) (sc : Scope) (k : Nat) (P : List Fn) (G : List (Str × PV)) (D : Tb) (F : Fns) : Prop where
  sc : X.env.scope = sc
  nd : X.N.Nodup
  calm : X.calm = true
  room : Room (k + 1) X.A
  fn : ∀ g f, P[g]? = some f → f.top = true → FnAt X k f.name f.lent (F g)
  mt : ∀ c m g f, ((c, m), g) ∈ D.mt → P[g]? = some f → MethAt X k c m f.lent (F g)
  nw : ∀ c g f n, (c, g) ∈ D.nw → P[g]? = some f → f.lent = true :: List.replicate n false → ClsNew X k c n (F g)
  at' : ∀ c n, c ∈ D.cs → n ∈ D.fl → ∃ C, ClsAt X.K c C ∧ Cls X.K C ∧ NoAttr X.K C n
  isa : ∀ c, c ∈ D.cs → ∃ E, X.mg c = some (.ref E) ∧ ∀ c' b, ((c', c), b) ∈ D.isa → ∃ C, ClsAt X.K c' C ∧ InsO X.K C ∧ PySem.W.kitOne X.K (.ref C) (.ref E) = some b
  bl : ∀ n : String, (bTypes ++ bFuns ++ ["bool", "isinstance", "range", "enumerate", "zip", "reversed", "set", "dict"]).contains n = true → X.mg (n : Str) = none
  gl : ∀ g ∈ G, ∃ v u, X.mg g.1 = some u ∧ RelV v u ∧ ∀ M, Rep X.K M v g.2
  fv : ∀ g, FvOk X.prog X.w X.K X.mg X.base k g (F g)
  xr : ∀ c f, D.xs.lookup c = some f → ExcAt X k c f ∧ AttxAt X c f
  xi : ∀ t tb, D.xi.lookup t = some tb → IsxAt X t tb
  fx : ∀ g f, P[g]? = some f → f.kd = 3 → f.lent.all (!·) = true → FnX X k f.name D.xs f.lent (F g)
  mx : ∀ d m g f, ((d, m), g) ∈ D.mx → P[g]? = some f → f.kd = 3 → MethX X k d m D.xs f.lent (F g)
  md : ∀ c m g f d, ((c, m), g) ∈ D.mt → P[g]? = some f → f.lent = [true, false] → D.df.lookup g = some d → MethD X k c m d (F g)
/-- targets may be stored -/
structure CtxT (X : Cx) (sc0 : Scope) : Prop where
  loc : ∀ x, Loc sc0 x → Loc X.env.scope x ∧ (X.fn x = true ∨ X.env.scope.names.lookup x = some .local)
theorem CtxE.blk {X : Cx} {sc : Scope} {k : Nat} {P : List Fn} {G : List (Str × PV)} {D : Tb} {F : Fns} (C : CtxE X sc k P G D F) (s : Shared) (H : Hp) (scope : Scope) (c : Addr) (cl : List (Str × Addr)) (fp : List Addr) :
    CtxE (X.blk s H scope (compEnvC scope cl c X.env) fp) (relS scope sc) k P G D F :=
  ⟨by rw [← C.sc]; rfl, C.nd, C.calm, C.room, fun g f h t => by
      obtain ⟨fa, ⟨q⟩, m⟩ := (C.fn g f h t).ex
      exact ⟨fa, ⟨q⟩, m⟩, fun c m g f h1 h2 => by
      obtain ⟨A, fa, a1, a2, a3, ⟨q⟩⟩ := (C.mt c m g f h1 h2).ex
      exact ⟨A, fa, a1, a2, a3, ⟨q⟩⟩, fun c g f n h1 h2 h3 => by
      obtain ⟨A, fa, a1, a2, a3, ⟨q⟩⟩ := (C.nw c g f n h1 h2 h3).ex
      exact ⟨A, fa, a1, a2, a3, ⟨q⟩⟩, C.at', C.isa, C.bl, C.gl, C.fv, fun c f h => ⟨⟨(C.xr c f h).1.ex⟩, ⟨(C.xr c f h).2.ex⟩⟩, fun t tb h => ⟨(C.xi t tb h).ex⟩, fun g f h1 h2 h3 => ⟨(C.fx g f h1 h2 h3).ex⟩, fun d m g f h1 h2 h3 => ⟨(C.mx d m g f h1 h2 h3).ex⟩, fun c m g f d h1 h2 h3 h4 => ⟨(C.md c m g f d h1 h2 h3 h4).ex⟩⟩
theorem CtxE.tr {X : Cx} {sc : Scope} {k : Nat} {P : List Fn} {G : List (Str × PV)} {D : Tb} {F : Fns} (C : CtxE X sc k P G D F) (pn : List (Addr × Obj)) (xe : Value → Shared → Prop) : CtxE (X.tr pn xe) sc k P G D F :=
  ⟨C.sc, C.nd, C.calm, C.room, fun g f h t => by
      obtain ⟨fa, ⟨q⟩, m⟩ := (C.fn g f h t).ex
      exact ⟨fa, ⟨q⟩, m⟩, fun c m g f h1 h2 => by
      obtain ⟨A, fa, a1, a2, a3, ⟨q⟩⟩ := (C.mt c m g f h1 h2).ex
      exact ⟨A, fa, a1, a2, a3, ⟨q⟩⟩, fun c g f n h1 h2 h3 => by
      obtain ⟨A, fa, a1, a2, a3, ⟨q⟩⟩ := (C.nw c g f n h1 h2 h3).ex
      exact ⟨A, fa, a1, a2, a3, ⟨q⟩⟩, C.at', C.isa, C.bl, C.gl, C.fv, fun c f h => ⟨⟨(C.xr c f h).1.ex⟩, ⟨(C.xr c f h).2.ex⟩⟩, fun t tb h => ⟨(C.xi t tb h).ex⟩, fun g f h1 h2 h3 => ⟨(C.fx g f h1 h2 h3).ex⟩, fun d m g f h1 h2 h3 => ⟨(C.mx d m g f h1 h2 h3).ex⟩, fun c m g f d h1 h2 h3 h4 => ⟨(C.md c m g f d h1 h2 h3 h4).ex⟩⟩
theorem CtxT.blk {X : Cx} (s : Shared) (H : Hp) (scope : Scope) (c : Addr) (cl : List (Str × Addr)) (fp : List Addr) : CtxT (X.blk s H scope (compEnvC scope cl c X.env) fp) scope := by
  refine ⟨fun x h => ?_⟩
  have e : (compEnvC scope cl c X.env).scope = relS scope X.env.scope := rfl
  rcases h with h | h
  · have q : (relS scope X.env.scope).names.lookup x = some .local := lookup_relS_keep (by simp) h
    exact ⟨.inl (by show (compEnvC scope cl c X.env).scope.names.lookup x = _; rw [e]; exact q), .inr (by show (compEnvC scope cl c X.env).scope.names.lookup x = _; rw [e]; exact q)⟩
  · have q : (relS scope X.env.scope).names.lookup x = some .cell := lookup_relS_keep (by simp) h
    exact ⟨.inr (by show (compEnvC scope cl c X.env).scope.names.lookup x = _; rw [e]; exact q), .inl (by show (scope.names.lookup x == some .cell) = true; rw [h]; rfl)⟩
theorem names_pg {X : Cx} {sc0 : Scope} (hN : X.N.Nodup) (C : CtxT X sc0) : ∀ {is : List Nat} {es : List Expr}, tgB.go sc0 X.N is es = true → PGs X es (gNames is) ∧ (assignEach es X.env).length = is.length ∧ (assignEach es X.env).findIdx? (·.1) = none
  | [], [], _ => ⟨pgs_nil, rfl, rfl⟩
  | [], _ :: _, h => by simp [tgB.go] at h
  | i :: is, [], h => by simp [tgB.go] at h
  | i :: is, e :: es, h => by
    cases e <;> simp only [tgB.go, Bool.and_eq_true, decide_eq_true_eq, Bool.false_eq_true] at h
    obtain ⟨⟨h1, h2⟩, h3⟩ := h
    obtain ⟨a, b, c⟩ := names_pg hN C h3
    obtain ⟨l, f⟩ := C.loc _ (locB_iff h2)
    refine ⟨pgs_cons (pg_name hN h1 l f) a rfl, by simp [assignEach, b], ?_⟩
    simp [assignEach, List.findIdx?_cons, c]
theorem tg_pg {X : Cx} {sc0 : Scope} (hc : X.calm = true) (hN : X.N.Nodup) (C : CtxT X sc0) {t : Tg} {e : Expr} (h : tgB sc0 X.N t e = true) : PG X e (gT X.K t) := by
  cases t with
  | name i =>
    cases e <;> simp only [tgB, Bool.and_eq_true, decide_eq_true_eq, Bool.false_eq_true] at h
    obtain ⟨l, f⟩ := C.loc _ (locB_iff h.2)
    exact pg_name hN h.1 l f
  | tup is =>
    cases e <;> simp only [tgB, Bool.false_eq_true] at h
    obtain ⟨a, b, c⟩ := names_pg hN C h
    exact pg_tup hc a b c
theorem Room.hu64 {k : Nat} {A : Around} (r : Room k A) : A.units + 65 < cLine := by have := r.un; omega

/-- a test at the end of and, or -/
theorem pw_last_and {X : Cx} {a : Expr} {t : TT} {pos : Pos} (h : PT X a t) : PW X (.BoolOp .And [a] pos) t := pw_and1 h
theorem pw_last_or {X : Cx} {a : Expr} {t : TT} {pos : Pos} (h : PT X a t) : PW X (.BoolOp .Or [a] pos) t := pw_or1 h
theorem pw_of_and {X : Cx} {es : List Expr} {t : TT} {pos : Pos} {op : BoolOp} (h : PT X (.BoolOp op es pos) t) : PW X (.BoolOp op es pos) t := ⟨fun w pins s σ H Q I q => h.run pins s σ H Q I q⟩
theorem pw_of_or {X : Cx} {es : List Expr} {t : TT} {pos : Pos} {op : BoolOp} (h : PT X (.BoolOp op es pos) t) : PW X (.BoolOp op es pos) t := pw_of_and h
section
variable {P : List Fn} {G : List (Str × PV)} {D : Tb} {F : Fns} {k : Nat}
theorem es_star {N : List Str} {sc : Scope} : ∀ {as : Es} {es : List Expr}, chkEs P G D N sc as es = true → ∀ e ∈ es, notStar e = true
  | .nil, [], _ => by simp
  | .nil, _ :: _, h => by simp [chkEs] at h
  | .cons _ _, [], h => by simp [chkEs] at h
  | .cons a as, x :: xs, h => by
    simp only [chkEs, Bool.and_eq_true] at h
    intro e he
    rcases List.mem_cons.mp he with rfl | he
    · exact h.1.1
    · exact es_star h.2 e he
theorem fnIs_iff {g : Nat} {x : Str} (h : fnIs P g x = true) : ∃ f, P[g]? = some f ∧ f.name = x ∧ f.top = true := by
  unfold fnIs at h
  split at h
  · rename_i f hf
    simp only [Bool.and_eq_true] at h
    exact ⟨f, hf, nm_eq h.1, h.2⟩
  · cases h
theorem noLent_iff {g : Nat} {f : Fn} (h : noLent P g = true) (hf : P[g]? = some f) : f.lent.all (!·) = true := by
  unfold noLent at h
  rw [hf] at h
  exact h
theorem noLent_ex {g : Nat} (h : noLent P g = true) : ∃ f, P[g]? = some f ∧ f.lent.all (!·) = true := by
  unfold noLent at h
  split at h
  · rename_i f hf; exact ⟨f, hf, h⟩
  · cases h
theorem lentIs_ex {g : Nat} {ls : List Bool} (h : lentIs P g ls = true) : ∃ f, P[g]? = some f ∧ f.lent = ls := by
  unfold lentIs at h
  split at h
  · rename_i f hf; exact ⟨f, hf, of_decide_eq_true h⟩
  · cases h
theorem tbF_mem {α : Type} : ∀ {tb : List (Str × α)} {c : Str} {x : α}, tbF tb c = some x → (c, x) ∈ tb
  | [], _, _, h => by simp [tbF] at h
  | (a, y) :: tb, c, x, h => by
    unfold tbF at h
    split at h
    · rename_i q; cases h
      have q' : a = c := q
      subst q'
      exact List.mem_cons_self
    · exact List.mem_cons_of_mem _ (tbF_mem h)
theorem gd_true {x : Bw} : gd x true = true := by
  cases x with
  | t s => rfl
  | b i π => cases π <;> rfl
theorem chkEs_len {N : List Str} {sc : Scope} : ∀ {as : Es} {es : List Expr}, chkEs P G D N sc as es = true → lenEs as = es.length
  | .nil, [], _ => rfl
  | .nil, _ :: _, h => by simp [chkEs] at h
  | .cons _ _, [], h => by simp [chkEs] at h
  | .cons a as, x :: xs, h => by
    simp only [chkEs, Bool.and_eq_true] at h
    simp [lenEs, chkEs_len h.2]
theorem evs_len : ∀ {as : Es} {env : PEnv} {r : List Bw × PEnv}, evs F as env = some r → r.1.length = lenEs as
  | .nil, env, r, h => by simp only [evs, Option.some.injEq] at h; subst h; rfl
  | .cons a as, env, r, h => by
    simp only [evs, Option.bind_eq_some_iff] at h
    obtain ⟨r1, e1, h⟩ := h
    split at h
    · obtain ⟨r2, e2, rfl⟩ := om h
      simp [lenEs, evs_len e2]
    · cases h
theorem form_len {es : List Expr} {env : Env} {pos : Pos} (h : ∀ e ∈ es, notStar e = true) (hl : es.length < 30) : methodCallForm es.length (backTo pos (starEach es env)) [] = true := by
  have : (backTo pos (starEach es env)).all (!·.1) = true := by
    clear hl
    induction es with
    | nil => rfl
    | cons e es ih =>
      rw [star_eq (h e List.mem_cons_self)]
      show (true && (backTo pos (starEach es env)).all (!·.1)) = true
      rw [ih fun e he => h e (List.mem_cons_of_mem _ he)]
      rfl
  unfold methodCallForm
  rw [this]
  simp [hl]
mutual
theorem sE : ∀ (a : E) (e : Expr) (X : Cx) (sc : Scope), CtxE X sc k P G D F → chk P G D X.N sc a e = true → PE X e (tE X.K (calmE a) (ev F a))
  | .var i, e, X, sc, C, h => by
    cases e <;> simp only [chk, Bool.false_eq_true] at h
    simp only [slotB, Bool.and_eq_true, decide_eq_true_eq] at h
    obtain ⟨o1, o2, _⟩ := okName_iff h.2
    exact se_var h.1.1 (by rw [C.sc]; exact visB_iff h.1.2) o1 o2
  | .non, e, X, sc, C, h => by
    unfold chk at h
    split at h
    · exact se_const pe_non fun M => .non
    · cases h
  | .bl b, e, X, sc, C, h => by
    unfold chk at h
    split at h
    · rename_i c _ _
      have e1 : b = c := by simpa using h
      subst e1
      exact se_const pe_bl fun M => .bl b
    · cases h
  | .int i, e, X, sc, C, h => by
    unfold chk at h
    split at h
    · have e1 := of_decide_eq_true h
      subst e1
      exact se_const pe_int fun M => .int i
    · cases h
  | .str z, e, X, sc, C, h => by
    unfold chk at h
    split at h
    · have e1 := nm_eq h
      subst e1
      exact se_const pe_str fun M => .str z
    · cases h
  | .glob x p, e, X, sc, C, h => by
    unfold chk at h
    split at h
    · simp only [Bool.and_eq_true, List.any_eq_true] at h
      obtain ⟨⟨⟨h1, h2⟩, h3⟩, g, hg, h4, h5⟩ := h
      have e1 := nm_eq h1
      subst e1
      have e2 := nm_eq h4
      obtain ⟨v, u, m1, m2, m3⟩ := C.gl g hg
      have e3 : g.2 = p := by
        generalize g.2 = q at h5
        cases q <;> cases p <;> simp only [pvB, decide_eq_true_eq, Bool.false_eq_true] at h5 <;> rw [h5]
      rw [e2] at m1
      rw [e3] at m3
      exact se_const (pe_glob (by show X.env.scope.names.lookup x = _; rw [C.sc]; exact glB_iff h2) m1 m2 (okName_iff h3).1) m3
    · cases h
  | .bin op a b, e, X, sc, C, h => by
    unfold chk at h
    split at h
    · simp only [Bool.and_eq_true, decide_eq_true_eq] at h
      obtain ⟨⟨rfl, h1⟩, h2⟩ := h
      exact se_bin (sE a _ X sc C h1) (sE b _ X sc C h2)
    · cases h
  | .neg a, e, X, sc, C, h => by
    unfold chk at h
    split at h
    · exact se_neg (sE a _ X sc C h)
    · cases h
  | .cmp op a b, e, X, sc, C, h => by
    unfold chk at h
    split at h
    · simp only [Bool.and_eq_true, decide_eq_true_eq] at h
      obtain ⟨⟨⟨rfl, h0⟩, h1⟩, h2⟩ := h
      exact se_cmp (Room.hu64 C.room) (sE a _ X sc C h1) (sE b _ X sc C h2) (marks_eq h0)
    · cases h
  | .chain op op' a b c, e, X, sc, C, h => by
    unfold chk at h
    split at h
    · simp only [Bool.and_eq_true, decide_eq_true_eq] at h
      obtain ⟨⟨⟨⟨⟨rfl, rfl⟩, h0⟩, h1⟩, h2⟩, h3⟩ := h
      exact se_chain (Room.hu64 C.room) (sE a _ X sc C h1) (sE b _ X sc C h2) (sE c _ X sc C h3) (last_eq h0)
    · cases h
  | .and a b, e, X, sc, C, h => by
    unfold chk at h
    split at h
    · simp only [Bool.and_eq_true] at h
      exact se_and (sE a _ X sc C h.1) (pe_one (sE b _ X sc C h.2))
    · simp only [Bool.and_eq_true] at h
      exact se_and (sE a _ X sc C h.1) (sE b _ X sc C h.2)
    · cases h
  | .or a b, e, X, sc, C, h => by
    unfold chk at h
    split at h
    · simp only [Bool.and_eq_true] at h
      exact se_or (sE a _ X sc C h.1) (pe_one (sE b _ X sc C h.2))
    · simp only [Bool.and_eq_true] at h
      exact se_or (sE a _ X sc C h.1) (sE b _ X sc C h.2)
    · cases h
  | .not a, e, X, sc, C, h => by
    unfold chk at h
    split at h
    · exact se_not (sE a _ X sc C h)
    · cases h
  | .ife c a b, e, X, sc, C, h => by
    unfold chk at h
    split at h
    · simp only [Bool.and_eq_true] at h
      exact se_ife (sT c _ X sc C h.1.1) (sE a _ X sc C h.1.2) (sE b _ X sc C h.2)
    · cases h
  | .ix a b, e, X, sc, C, h => by
    unfold chk at h
    split at h
    · simp only [Bool.and_eq_true] at h
      exact se_ix (Room.hu64 C.room) (sE a _ X sc C h.1.2) (sE b _ X sc C h.2) (slice_eq h.1.1)
    · cases h
  | .slc a lo hi, e, X, sc, C, h => by
    unfold chk at h
    split at h
    · simp only [Bool.and_eq_true] at h
      exact se_slc (sE a _ X sc C h.1.1) (sO lo _ X sc C h.1.2) (sO hi _ X sc C h.2)
    · cases h
  | .tup es, e, X, sc, C, h => by
    unfold chk at h
    split at h
    · exact se_tup (sEs es _ X sc C h)
    · cases h
  | .lst es, e, X, sc, C, h => by
    unfold chk at h
    split at h
    · exact se_lst (sEs es _ X sc C h)
    · cases h
  | .call g es, e, X, sc, C, h => by
    unfold chk at h
    split at h
    · simp only [Bool.and_eq_true] at h
      obtain ⟨⟨⟨⟨h1, hn⟩, h2⟩, h3⟩, h4⟩ := h
      obtain ⟨f, hf, rfl, ht⟩ := fnIs_iff h1
      have st := es_star h4
      exact se_call (noLent_iff hn hf) (C.fn g f hf ht) (C.room.mono (by omega)) (by show X.env.scope.names.lookup _ = _; rw [C.sc]; exact glB_iff h2) (sEs es _ X sc C h4) (okName_iff h3).1 (star_eq (st _ List.mem_cons_self)) (any_len fun e he => st e (List.mem_cons_of_mem _ he))
    · cases h
  | .att o f cs, e, X, sc, C, h => by
    unfold chk at h
    split at h
    · simp only [Bool.and_eq_true] at h
      obtain ⟨⟨⟨⟨h1, h2⟩, h3⟩, h4⟩, h5⟩ := h
      have e1 := nm_eq h1
      subst e1
      refine se_att (fun c hc => C.at' c f ?_ (inB_iff h2)) (sE o _ X sc C h5) (base_eq h4)
      exact inB_iff (List.all_eq_true.mp h3 c (List.contains_iff_mem.mp hc))
    · cases h
  | .mcall o m tb es, e, X, sc, C, h => by
    unfold chk at h
    split at h
    · rename_i x a apos ys cpos
      simp only [Bool.and_eq_true, decide_eq_true_eq] at h
      obtain ⟨⟨⟨⟨⟨⟨h1, h2⟩, h3⟩, h4⟩, h5⟩, h6⟩, h7⟩ := h
      have e1 := nm_eq h1
      subst e1
      have hm : ∀ c g, tbF tb c = some g → ∃ ls, ls.all (!·) = true ∧ MethAt X k c m ls (F g) := fun c g hg => by
        have := List.all_eq_true.mp h2 (c, g) (tbF_mem hg)
        simp only [Bool.and_eq_true] at this
        obtain ⟨f, hf, hl⟩ := noLent_ex this.2
        exact ⟨f.lent, hl, C.mt c m g f (inB_iff this.1) hf⟩
      have st := es_star h7
      cases ys with
      | nil =>
        cases es <;> simp only [chkEs, Bool.false_eq_true] at h7
        refine PE_imp (se_mcall0 hm (C.room.mono (by omega)) (sE o _ X sc C h6) (base_eq h4) h3) fun σ H Q q => ?_
        obtain ⟨H0, M0, env, T, r', e, sa, ro, kk⟩ := q
        refine ⟨H0, M0, env, T, r', ?_, sa, ro_l ro, kk⟩
        rw [← e]
        simp only [ev, evs, calmEs, gd_true, if_true, Option.bind_some]
      | cons y ys =>
        exact se_mcall hm (C.room.mono (by omega)) (sE o _ X sc C h6) (sEs es _ X sc C h7) (base_eq h4) (form_len st h5) h3 (star_eq (st _ List.mem_cons_self)) (any_len fun e he => st e (List.mem_cons_of_mem _ he))
    · cases h
  | .lmcall o m tb es, e, X, sc, C, h => by
    unfold chk at h
    split at h
    · rename_i x a apos ys cpos
      simp only [Bool.and_eq_true, decide_eq_true_eq] at h
      obtain ⟨⟨⟨⟨⟨⟨h1, h2⟩, h3⟩, h4⟩, h5⟩, h6⟩, h7⟩ := h
      have e1 := nm_eq h1
      subst e1
      have hl := chkEs_len h7
      have hm : ∀ c g, tbF tb c = some g → MethAt X k c m (true :: List.replicate (lenEs es) false) (F g) := fun c g hg => by
        have := List.all_eq_true.mp h2 (c, g) (tbF_mem hg)
        simp only [Bool.and_eq_true] at this
        obtain ⟨f, hf, hl⟩ := lentIs_ex this.2
        rw [← hl]
        exact C.mt c m g f (inB_iff this.1) hf
      have st := es_star h7
      cases ys with
      | nil =>
        cases es <;> simp only [chkEs, Bool.false_eq_true] at h7
        refine PE_imp (se_lmcall0 hm (C.room.mono (by omega)) (sE o _ X sc C h6) (base_eq h4) h3) fun σ H Q q => ?_
        obtain ⟨H0, M0, env, T, r', e, sa, ro, kk⟩ := q
        refine ⟨H0, M0, env, T, r', ?_, sa, ro, kk⟩
        rw [← e]
        simp only [ev, evs, calmEs, gd_true, if_true, Option.bind_some, List.map_nil]
      | cons y ys =>
        refine se_lmcall (k := k) (e0 := y) (es := ys) (fun c g hg => ?_) (C.room.mono (by omega)) (sE o _ X sc C h6) (sEs es _ X sc C h7) (base_eq h4) (form_len st h5) h3 (star_eq (st _ List.mem_cons_self)) (any_len fun e he => st e (List.mem_cons_of_mem _ he)) (fun env r hr => by rw [evs_len hr, hl])
        have := hm c g hg
        rw [List.map_const', ← hl]
        exact this
    · cases h
  | .new c g es, e, X, sc, C, h => by
    unfold chk at h
    split at h
    · rename_i x p ys pos
      simp only [Bool.and_eq_true] at h
      obtain ⟨⟨⟨⟨⟨h1, h2⟩, h3⟩, h4⟩, h5⟩, h6⟩ := h
      have e1 := nm_eq h1
      subst e1
      obtain ⟨f, hf, hl⟩ := lentIs_ex h3
      have A := C.nw c g f _ (inB_iff h2) hf hl
      have st := es_star h6
      have gg : Gl X c := by show X.env.scope.names.lookup _ = _; rw [C.sc]; exact glB_iff h4
      cases ys with
      | nil =>
        cases es <;> simp only [chkEs, Bool.false_eq_true] at h6
        refine PE_imp (se_new0 A C.room gg (okName_iff h5).1) fun σ H Q q => ?_
        obtain ⟨H0, M0, env, T, r', e, sa, ro, kk⟩ := q
        refine ⟨H0, M0, env, T, r', ?_, sa, ro, kk⟩
        rw [← e]
        simp only [ev, evs, Option.bind_some]
      | cons y ys =>
        exact se_new A C.room gg (sEs es _ X sc C h6) (okName_iff h5).1 (star_eq (st _ List.mem_cons_self)) (any_len fun e he => st e (List.mem_cons_of_mem _ he))
    · cases h
  | .wall, e, X, sc, C, h => ⟨fun pins s σ H Q I q => by obtain ⟨_, _, _, _, _, e, _⟩ := q; cases e⟩
  | .blt f es, e, X, sc, C, h => by
    unfold chk at h
    split at h
    · simp only [Bool.and_eq_true] at h
      obtain ⟨⟨⟨⟨h1, h2⟩, h3⟩, h4⟩, h5⟩ := h
      have e1 := nm_eq h1
      subst e1
      have st := es_star h5
      obtain ⟨o1, o2, o3⟩ := okName_iff h4
      exact se_blt (Room.hu64 C.room) C.calm (by show X.env.scope.names.lookup _ = _; rw [C.sc]; exact glB_iff h3) (C.bl f (by rw [List.contains_iff_mem] at h2 ⊢; exact List.mem_append_left _ h2)) h2 (sEs es _ X sc C h5) o3 o1 (star_eq (st _ List.mem_cons_self)) (any_len fun e he => st e (List.mem_cons_of_mem _ he))
    · cases h
  | .isi a ty, e, X, sc, C, h => by
    unfold chk at h
    split at h
    · simp only [Bool.and_eq_true] at h
      obtain ⟨⟨⟨⟨⟨⟨⟨h1, h2⟩, h3⟩, h4⟩, h5⟩, h6⟩, h7⟩, h8⟩ := h
      have e1 := nm_eq h1
      have e2 := nm_eq h2
      subst e1 e2
      obtain ⟨o1, o2, o3⟩ := okName_iff h6
      have ht : X.mg (ty : Str) = none := by
        refine C.bl ty ?_
        simp only [isiTys, List.contains_cons, List.contains_nil, Bool.or_eq_true, beq_iff_eq, Bool.or_false] at h3
        rcases h3 with rfl | rfl | rfl | rfl | rfl | rfl <;> decide
      exact se_isi (p3 := ⟨0, 0, 0, 0⟩) (by show X.env.scope.names.lookup _ = _; rw [C.sc]; exact glB_iff h4) (C.bl "isinstance" (by decide)) (by show X.env.scope.names.lookup _ = _; rw [C.sc]; exact glB_iff h5) ht (boot_ty h3) (sE a _ X sc C h8) o3 o1 (star_eq h7)
    · cases h
  | .meth m a b, e, X, sc, C, h => by
    unfold chk at h
    split at h
    · simp only [Bool.and_eq_true] at h
      obtain ⟨⟨⟨⟨⟨⟨h1, h2⟩, h3⟩, h4⟩, h5⟩, h6⟩, h7⟩ := h
      have e1 := nm_eq h1
      subst e1
      refine se_meth ?_ (sE a _ X sc C h6) (sE b _ X sc C h7) (star_eq h5) (base_eq h4) h3
      simp only [List.contains_cons, List.contains_nil, Bool.or_eq_true, beq_iff_eq, Bool.or_false] at h2
      exact h2
    · cases h
  | .comp elt t own it cd, e, X, sc, C, h => by
    unfold chk at h
    split at h
    · rename_i x tg iter ifs scope pos
      simp only [Bool.and_eq_true] at h
      obtain ⟨⟨⟨⟨⟨⟨h1, h2⟩, h3⟩, h4⟩, h5⟩, h6⟩, h7⟩ := h
      refine se_comp (cc := calmC cd) (ce := calmE elt) (fun i hi => ?_) C.calm C.nd (sI it tg iter X sc C h5) (by rw [C.sc]; exact blkOk_by h1) (fun s H c cl fp => ?_) (fun s H c cl fp => ?_) (fun s H c cl fp => ?_) (set_eq h3)
      · have := List.all_eq_true.mp h2 i hi
        rwa [List.contains_iff_mem] at this
      · exact tg_pg (X := X.blk s H scope (compEnvC scope cl c X.env) fp) C.calm C.nd (CtxT.blk s H scope c cl fp) h4
      · exact sC cd ifs (X.blk s H scope (compEnvC scope cl c X.env) fp) (relS scope sc) (C.blk s H scope c cl fp) h6
      · exact sE elt x (X.blk s H scope (compEnvC scope cl c X.env) fp) (relS scope sc) (C.blk s H scope c cl fp) h7
    · cases h
theorem sO : ∀ (a : O) (e : Option Expr) (X : Cx) (sc : Scope), CtxE X sc k P G D F → chkO P G D X.N sc a e = true → PO X e (tOs X.K (calmO a) (evO F a))
  | .no, e, X, sc, C, h => by
    cases e <;> simp only [chkO, Bool.false_eq_true] at h
    exact so_no
  | .some a, e, X, sc, C, h => by
    cases e <;> simp only [chkO, Bool.false_eq_true] at h
    exact so_some (sE a _ X sc C h)
theorem sC : ∀ (a : C) (e : List Expr) (X : Cx) (sc : Scope), CtxE X sc k P G D F → chkC P G D X.N sc a e = true → PTs X e (tTs X.K (calmC a) (evC F a))
  | .yes, e, X, sc, C, h => by
    cases e <;> simp only [chkC, Bool.false_eq_true] at h
    exact pts_yes
  | .on t, e, X, sc, C, h => by
    unfold chkC at h
    split at h
    · exact pts_one (sT t _ X sc C h)
    · cases h
theorem sEs : ∀ (a : Es) (e : List Expr) (X : Cx) (sc : Scope), CtxE X sc k P G D F → chkEs P G D X.N sc a e = true → PA X e (tAs X.K (calmEs a) (evs F a))
  | .nil, e, X, sc, C, h => by
    cases e <;> simp only [chkEs, Bool.false_eq_true] at h
    exact sa_nil
  | .cons a as, e, X, sc, C, h => by
    cases e <;> simp only [chkEs, Bool.false_eq_true, Bool.and_eq_true] at h
    exact sa_cons (sE a _ X sc C h.1.2) (sEs as _ X sc C h.2) (star_eq h.1.1)
theorem sT : ∀ (a : T) (e : Expr) (X : Cx) (sc : Scope), CtxE X sc k P G D F → chkT P G D X.N sc a e = true → PT X e (tTs X.K (calmT a) (evT F a))
  | .val a, e, X, sc, C, h => by
    simp only [chkT, Bool.and_eq_true] at h
    exact st_val (sE a _ X sc C h.2) (plain_eq h.1)
  | .cmp op a b, e, X, sc, C, h => by
    unfold chkT at h
    split at h
    · simp only [Bool.and_eq_true, decide_eq_true_eq] at h
      obtain ⟨⟨⟨rfl, h0⟩, h1⟩, h2⟩ := h
      exact st_cmp (Room.hu64 C.room) (sE a _ X sc C h1) (sE b _ X sc C h2) (marks_eq h0)
    · cases h
  | .chain op op' a b c, e, X, sc, C, h => by
    unfold chkT at h
    split at h
    · simp only [Bool.and_eq_true, decide_eq_true_eq] at h
      obtain ⟨⟨⟨⟨⟨rfl, rfl⟩, h0⟩, h1⟩, h2⟩, h3⟩ := h
      exact st_chain (Room.hu64 C.room) (sE a _ X sc C h1) (sE b _ X sc C h2) (sE c _ X sc C h3) (last_eq h0)
    · cases h
  | .and a b, e, X, sc, C, h => by
    unfold chkT at h
    split at h
    · simp only [Bool.and_eq_true] at h
      exact (st_and (sT a _ X sc C h.1) (pw_last_and (sT b _ X sc C h.2))).pt
    · simp only [Bool.and_eq_true] at h
      exact (st_and (sT a _ X sc C h.1) (pw_of_and (sT b _ X sc C h.2))).pt
    · cases h
  | .or a b, e, X, sc, C, h => by
    unfold chkT at h
    split at h
    · simp only [Bool.and_eq_true] at h
      exact (st_or (sT a _ X sc C h.1) (pw_last_or (sT b _ X sc C h.2))).pt
    · simp only [Bool.and_eq_true] at h
      exact (st_or (sT a _ X sc C h.1) (pw_of_or (sT b _ X sc C h.2))).pt
    · cases h
  | .not a, e, X, sc, C, h => by
    unfold chkT at h
    split at h
    · exact st_not (sT a _ X sc C h)
    · cases h
theorem sI : ∀ (a : I) (tg e : Expr) (X : Cx) (sc : Scope), CtxE X sc k P G D F → chkI P G D X.N sc a tg e = true → PI X tg e (tIs X.K (calmI a) (evI F a))
  | .val a, tg, e, X, sc, C, h => by
    simp only [chkI] at h
    exact si_val (sE a _ X sc C h)
  | .range1 a, tg, e, X, sc, C, h => by
    unfold chkI at h
    split at h
    · simp only [Bool.and_eq_true] at h
      obtain ⟨⟨⟨h1, h2⟩, h3⟩, h4⟩ := h
      have e1 := nm_eq h1
      subst e1
      exact si_range1 (by show X.env.scope.names.lookup _ = _; rw [C.sc]; exact glB_iff h2) (C.bl "range" (by decide)) (sE a _ X sc C h4) (star_eq h3)
    · cases h
  | .enum a, tg, e, X, sc, C, h => by
    unfold chkI at h
    split at h
    · simp only [Bool.and_eq_true] at h
      obtain ⟨⟨⟨⟨h0, h1⟩, h2⟩, h3⟩, h4⟩ := h
      have e1 := nm_eq h1
      subst e1
      cases tg <;> simp only [isTup, Bool.false_eq_true] at h0
      exact si_enum (by show X.env.scope.names.lookup _ = _; rw [C.sc]; exact glB_iff h2) (C.bl "enumerate" (by decide)) (sE a _ X sc C h4) (star_eq h3)
    · cases h
  | .zip a b, tg, e, X, sc, C, h => by
    unfold chkI at h
    split at h
    · simp only [Bool.and_eq_true] at h
      obtain ⟨⟨⟨⟨⟨⟨h0, h1⟩, h2⟩, h3⟩, h4⟩, h5⟩, h6⟩ := h
      have e1 := nm_eq h1
      subst e1
      cases tg <;> simp only [isTup, Bool.false_eq_true] at h0
      exact si_zip (by show X.env.scope.names.lookup _ = _; rw [C.sc]; exact glB_iff h2) (C.bl "zip" (by decide)) (sE a _ X sc C h5) (sE b _ X sc C h6) (star_eq h3) (star_eq h4)
    · cases h
end
end
end Me
/-! Me14n: the frame of a function within a def: captured cells and cells of its own. -/
namespace Me
open PySem PySem.Spec PyProof.Rows L2
open NdefX (TabsN NTab TabN CellsAt NF startF)
open LamX (CodeO TabB ExtN)

section
variable {M : Model} {A : Around} {E : Value → Shared → Prop} {s₀ s : Shared} {m cm : Str → Option Value} {env : Env} {own : List (Str × Addr)}
theorem stLD {n : Str} {v : Value} {Q : Unit → Shared → Prop} (x : InCallC s₀ env.locals m own cm s) (hk : env.scope.kind = .function) (hl : env.kindOf n = some .local)
    (h : ∀ s', InCallC s₀ env.locals (fun y => if y = n then some v else m y) own cm s' → Q () s') : wpAny M A (storeName env n v) Q E s := by
  refine wpAny_storeName_local hl x.toInCall.ns (fun h' hn' hs' => h _ ⟨⟨?_, hn', fun b o e => ?_, x.toInCall.fresh⟩, fun k c hc => ?_, x.apart, x.above⟩) (by rw [hk]; rfl)
  · obtain ⟨h₁, tk, rfl⟩ := x.toInCall.same
    exact ⟨h', _, rfl⟩
  · exact hs'.extBut b o (Nat.ne_of_lt (Nat.lt_of_lt_of_le (Heap.lt_size e) x.toInCall.fresh)) (x.toInCall.keep b o e)
  · exact (x.cell k c hc).sameBut hs' (Nat.ne_of_gt (x.above k c (PySem.mem_of_lookup hc)))
theorem stCD {n : Str} {c : Addr} {v : Value} {Q : Unit → Shared → Prop} (x : InCallC s₀ env.locals m own cm s) (hk : env.scope.kind = .function) (hl : env.kindOf n = some .cell)
    (hc : env.cells.lookup n = some c) (ho : own.lookup n = some c)
    (h : ∀ s', InCallC s₀ env.locals m own (fun y => if y = n then some v else cm y) s' → Q () s') : wpAny M A (storeName env n v) Q E s := by
  have hLc := x.above n c (PySem.mem_of_lookup ho)
  refine wpAny_storeName_cell hk hl hc (x.cell n c ho) fun h' hc' hs' => h _ ⟨⟨?_, x.toInCall.ns.sameBut hs' (Nat.ne_of_lt hLc), fun b o e => ?_, x.toInCall.fresh⟩, fun k c' hk' => ?_, x.apart, x.above⟩
  · obtain ⟨h₁, tk, rfl⟩ := x.toInCall.same
    exact ⟨h', _, rfl⟩
  · exact hs'.extBut b o (Nat.ne_of_lt (Nat.lt_trans (Nat.lt_of_lt_of_le (Heap.lt_size e) x.toInCall.fresh) hLc)) (x.toInCall.keep b o e)
  · by_cases hkn : k = n
    · subst hkn
      rw [ho] at hk'; cases hk'
      simpa using hc'
    · rw [if_neg hkn]
      exact (x.cell k c' hk').sameBut hs' fun e => hkn (name_of_addr x.apart (PySem.mem_of_lookup hk') (e ▸ PySem.mem_of_lookup ho))
theorem bindD (f : Str × Value → PUnit → Sem (ForInStep PUnit)) (hf : ∀ n v u, f (n, v) u = (do storeName env n v; pure (.yield ⟨⟩))) (hk : env.scope.kind = .function) :
    ∀ (binds : List (Str × Value)) (m cm : Str → Option Value) (s : Shared) (Q : PUnit → Shared → Prop), InCallC s₀ env.locals m own cm s →
      (∀ x ∈ binds, env.kindOf x.1 = some .local ∨ (env.kindOf x.1 = some .cell ∧ ∃ c, env.cells.lookup x.1 = some c ∧ own.lookup x.1 = some c)) →
      (∀ s', InCallC s₀ env.locals (bindL env.kindOf binds m) own (bindC env.kindOf binds cm) s' → Q ⟨⟩ s') → wpAny M A (forIn binds ⟨⟩ f) Q E s
  | [], m, cm, s, Q, x, _, h => by rw [List.forIn_nil]; exact wpAny_pure (h s x)
  | (n, v) :: r, m, cm, s, Q, x, hkind, h => by
    rw [List.forIn_cons, hf]
    have hr : ∀ y ∈ r, env.kindOf y.1 = some .local ∨ (env.kindOf y.1 = some .cell ∧ ∃ c, env.cells.lookup y.1 = some c ∧ own.lookup y.1 = some c) := fun y hy => hkind y (List.mem_cons_of_mem _ hy)
    rcases hkind (n, v) List.mem_cons_self with hl | ⟨hl, c, hc, ho⟩
    · refine wpAny_bind (wpAny_bind (stLD x hk hl fun s' x' => wpAny_pure (bindD f hf hk r _ _ s' Q x' hr fun s'' x'' => h s'' ?_)))
      unfold bindL bindC; rw [if_pos hl, if_pos hl]; exact x''
    · have hnl : ¬ env.kindOf n = some .local := by rw [hl]; decide
      refine wpAny_bind (wpAny_bind (stCD x hk hl hc ho fun s' x' => wpAny_pure (bindD f hf hk r _ _ s' Q x' hr fun s'' x'' => h s'' ?_)))
      unfold bindL bindC; rw [if_neg hnl, if_neg hnl]; exact x''
end
theorem cellsFrom_app : ∀ {names : List (Str × NameKind)} {n : Nat} {acc : List (Str × Addr)}, cellsFrom n names acc = cellsFrom n names [] ++ acc
  | [], n, acc => rfl
  | (name, kind) :: r, n, acc => by
    unfold cellsFrom
    split
    · rw [cellsFrom_app (acc := (name, n) :: acc), cellsFrom_app (acc := [(name, n)]), List.append_assoc]; rfl
    · exact cellsFrom_app
theorem cellsFrom_mem : ∀ {names : List (Str × NameKind)} {n : Nat} {acc : List (Str × Addr)} {y : Str} {c : Addr}, (y, c) ∈ cellsFrom n names acc → (y, c) ∈ acc ∨ (y, NameKind.cell) ∈ names
  | [], n, acc, y, c, h => .inl h
  | (name, kind) :: r, n, acc, y, c, h => by
    unfold cellsFrom at h
    split at h
    · rename_i hk
      rcases cellsFrom_mem h with z | z
      · rcases List.mem_cons.mp z with z | z
        · cases z
          have : kind = .cell := beq_iff_eq.mp hk
          subst this
          exact .inr List.mem_cons_self
        · exact .inl z
      · exact .inr (List.mem_cons_of_mem _ z)
    · rcases cellsFrom_mem h with z | z
      · exact .inl z
      · exact .inr (List.mem_cons_of_mem _ z)
theorem newEnvD {M : Model} {A : Around} {E : Value → Shared → Prop} {s : Shared} {scope : Scope} {globals : Addr} {closure : List (Str × Addr)} {binds : List (Str × Value)} {qual : Str} {func : Option Addr} {code : Value} {builtins : Addr} {Q : Env → Shared → Prop}
    (hk : scope.kind = .function) (hkind : ∀ x ∈ binds, scope.names.lookup x.1 = some .local ∨ scope.names.lookup x.1 = some .cell)
    (hQ : ∀ s', InCallC s s.heap.objs.size (bindL (newEnv scope s.heap.objs.size globals (cellsFrom (s.heap.objs.size + 1) scope.names closure) qual func code none builtins).kindOf binds fun _ => none) (cellsFrom (s.heap.objs.size + 1) scope.names []) (bindC (newEnv scope s.heap.objs.size globals (cellsFrom (s.heap.objs.size + 1) scope.names closure) qual func code none builtins).kindOf binds fun _ => none) s' →
      Q (newEnv scope s.heap.objs.size globals (cellsFrom (s.heap.objs.size + 1) scope.names closure) qual func code none builtins) s') :
    wpAny M A (newFunctionEnv scope globals closure binds qual func code none builtins) Q E s := by
  simp only [newFunctionEnv, Option.isSome_none, Bool.false_eq_true, if_false]
  refine wpAny_bind (wpAny_alloc ?_)
  refine wpAny_bind (wpAny_layCells _ (fun name kind cells => by cases hkc : kind == NameKind.cell <;> simp [hkc]) _ _ _ _ ?_)
  have ok := cellsFrom_ok scope.names (s.heap.push { cls := .type "frame", data := .dict #[] }) (s.heap.objs.size + 1) [] ⟨fun _ _ hm => (nomatch hm), List.Pairwise.nil⟩ (by rw [Heap.size_push]; exact Nat.le_refl _)
  rw [Heap.size_push] at ok
  rw [show ({ s with heap := s.heap.push { cls := .type "frame", data := .dict #[] } } : Shared).heap.objs.size = s.heap.objs.size + 1 from Heap.size_push ..]
  refine wpAny_bind (bindD (s₀ := s) (own := cellsFrom (s.heap.objs.size + 1) scope.names []) (env := newEnv scope s.heap.objs.size globals (cellsFrom (s.heap.objs.size + 1) scope.names closure) qual func code none builtins)
    _ (fun _ _ _ => rfl) hk binds (fun _ => none) (fun _ => none) _ _
    ⟨⟨⟨_, _, rfl⟩, (Heap.Ns.new s.heap (.type "frame")).keeps (pushCells_keeps _ _), fun b o e => pushCells_keeps _ _ b o (Heap.get?_push_of_some _ e), Nat.le_refl _⟩,
      fun n c hc => (ok.empty n c (PySem.mem_of_lookup hc)).1, ok.apart, fun n c hm => (ok.empty n c hm).2⟩
    (fun x hx => ?_) fun s' x => wpAny_pure (hQ s' x))
  rcases hkind x hx with q | q
  · exact .inl q
  · obtain ⟨c, hc⟩ := cell_has (n := s.heap.objs.size + 1) q
    refine .inr ⟨q, c, ?_, hc⟩
    show (cellsFrom (s.heap.objs.size + 1) scope.names closure).lookup x.1 = some c
    rw [cellsFrom_app, List.lookup_append, hc]; rfl
/-- its names: the parameters, then the captured ones, then its locals -/
structure NScopeC (N ps fr : List Str) (sc : Scope) : Prop where
  kind : sc.kind = .function
  co : sc.isCoroutine = false
  gen : sc.isGenerator = false
  nd : N.Nodup
  pre : N.take (ps.length + fr.length) = ps ++ fr
  par : ∀ x ∈ ps, sc.names.lookup x = some .local ∨ sc.names.lookup x = some .cell
  free : ∀ y ∈ sc.names, y.2 = .free → y.1 ∈ fr
  frk : ∀ x ∈ fr, sc.names.lookup x = some .free
  dis : ∀ y ∈ sc.names, y.2 = .cell → y.1 ∉ fr
noncomputable abbrev envD (F : NF) (f L : Addr) : Env := PySem.W.envX F.qual F.scope L f (.ref F.c) (cellsFrom (L + 1) F.scope.names F.cl)
/-- the context of its body, at its entry -/
noncomputable def dcx (CX : CXT) (P : Program) (w : World) (K : PySem.W.Frag) (mg : Str → Option Value) (base : Heap) (N : List Str) (F : NF) (f : Addr) (A : Around) (outer : List Env) (s : Shared) (H : Hp) (E : XK) : Cx where
  prog := P
  w := w
  K := K
  mg := mg
  base := base
  A := A.deeper (envD F f s.heap.objs.size)
  N := N
  s_0 := s
  H_0 := H
  env := envD F f s.heap.objs.size
  outer := outer
  stack := envD F f s.heap.objs.size :: outer
  ex := []
  calm := true
  fn := fun x => decide (F.scope.names.lookup x = some .cell)
  pn := []
  xe := fun e s' => wpAny (model P w) (A.deeper (envD F f s.heap.objs.size)) (leaving (envD F f s.heap.objs.size) e) (fun _ s'' => CX outer H s E e s'') (fun e' s'' => CX outer H s E e' s'') s'
theorem inv_startD {CX : CXT} {P : Program} {w : World} {K : PySem.W.Frag} {mg : Str → Option Value} {base : Heap} {N ps fr : List Str} {F : NF} {f : Addr} {A : Around} {outer : List Env} {s s1 : Shared} {H : Hp} {E : XK} {us : List Value} {vs : List V} {ws : List (Option V)}
    (S : NScopeC N ps fr F.scope) (hd : A.handled = none) (e0 : Env0 P w K mg base A outer s H) (hl : vs.length = ps.length) (r : Vals vs us) (C : CellsAt F.cl fr ws s.heap H) (hsub : ∀ y c, F.cl.lookup y = some c → y ∈ fr)
    (x : InCallC s s.heap.objs.size (bindL (envD F f s.heap.objs.size).kindOf (ps.zip us) fun _ => none) (cellsFrom (s.heap.objs.size + 1) F.scope.names []) (bindC (envD F f s.heap.objs.size).kindOf (ps.zip us) fun _ => none) s1) :
    Inv (dcx CX P w K mg base N F f A outer s H E) [] (startF N vs ws) H s1 := by
  have hpl : ps.length + fr.length ≤ N.length := by
    have q := congrArg List.length S.pre
    rw [List.length_take, List.length_append] at q
    omega
  obtain ⟨h1, tk, rfl, kp⟩ := x.done
  have noA : ∀ b : Addr, b ∉ (dcx CX P w K mg base N F f A outer s H E).ex := fun b z => absurd (show b ∈ ([] : List Addr) from z) (by simp)
  have cellK : ∀ {c : Addr} {v : Option Value}, s.heap.IsCell c v → h1.IsCell c v := fun {c v} ⟨o, ho, hd⟩ => ⟨o, kp _ _ ho, hd⟩
  -- a cell is its own or captured
  have lk : ∀ y c, (cellsFrom (s.heap.objs.size + 1) F.scope.names F.cl).lookup y = some c → (cellsFrom (s.heap.objs.size + 1) F.scope.names []).lookup y = some c ∨ ((cellsFrom (s.heap.objs.size + 1) F.scope.names []).lookup y = none ∧ F.cl.lookup y = some c) := fun y c e => by
    rw [cellsFrom_app, List.lookup_append] at e
    cases q : (cellsFrom (s.heap.objs.size + 1) F.scope.names []).lookup y with
    | some c' => rw [q] at e; exact .inl e
    | none => rw [q] at e; exact .inr ⟨rfl, e⟩
  have ownA : ∀ y c, (cellsFrom (s.heap.objs.size + 1) F.scope.names []).lookup y = some c → s.heap.objs.size < c := fun y c e => x.above y c (PySem.mem_of_lookup e)
  have capA : ∀ y c, F.cl.lookup y = some c → c < s.heap.objs.size := fun y c e => (C.all y c e).2.elim fun v z => z.lt
  have frN : ∀ y ∈ fr, (cellsFrom (s.heap.objs.size + 1) F.scope.names []).lookup y = none := fun y hy => by
    cases q : (cellsFrom (s.heap.objs.size + 1) F.scope.names []).lookup y with
    | none => rfl
    | some c =>
      rcases cellsFrom_mem (PySem.mem_of_lookup q) with z | z
      · cases z
      · exact absurd hy (S.dis _ z rfl)
  have capL : ∀ y ∈ fr, ∀ c, F.cl.lookup y = some c → (cellsFrom (s.heap.objs.size + 1) F.scope.names F.cl).lookup y = some c := fun y hy c e => by
    rw [cellsFrom_app, List.lookup_append, frN y hy]; exact e
  refine ⟨⟨e0.mod, S.kind, rfl, rfl, Nat.le_refl _, fun y z c e1 e2 => ?_, fun y hy => ?_, fun y c q e => ?_, fun _ => hd, Around.frames_deeper e0.frames, .inr ⟨rfl, rfl⟩, fun b z => absurd z (noA b), e0.bs, e0.bsz, fun b _ _ => noA b,
      fun b z => absurd z (noA b), e0.funs, e0.frf⟩,
    rfl, e0.bare, Un.kept kp, ⟨_, x.toInCall.ns, fun i y v e1 e2 e3 => ?_⟩, fun y c e => ?_, e0.hok.fresh (Nat.le_refl _), fun y c e => ?_, fun q hq => absurd (show q ∈ ([] : List (Addr × Obj)) ++ [] from hq) (by simp), e0.hok.kept kp, ?_⟩
  · rcases lk y c e1 with z1 | ⟨_, z1⟩ <;> rcases lk z c e2 with z2 | ⟨_, z2⟩
    · exact name_of_addr x.apart (PySem.mem_of_lookup z1) (PySem.mem_of_lookup z2)
    · exact absurd (Nat.lt_trans (ownA y c z1) (capA z c z2)) (Nat.lt_irrefl _)
    · exact absurd (Nat.lt_trans (ownA z c z2) (capA y c z1)) (Nat.lt_irrefl _)
    · exact C.inj y z c z1 z2
  · have hy : F.scope.names.lookup y = some .cell ∨ F.scope.names.lookup y = some .free := hy
    rcases hy with hy | hy
    · obtain ⟨c, hc⟩ := cell_has (n := s.heap.objs.size + 1) hy
      refine ⟨c, ?_⟩
      show (cellsFrom (s.heap.objs.size + 1) F.scope.names F.cl).lookup y = some c
      rw [cellsFrom_app, List.lookup_append, hc]; rfl
    · have hf := S.free _ (PySem.mem_of_lookup hy) rfl
      obtain ⟨i, hi⟩ := List.mem_iff_getElem?.mp hf
      obtain ⟨c, hc, _⟩ := C.has i y hi
      exact ⟨c, capL y hf c hc⟩
  · rcases lk y c e with z | ⟨z, z2⟩
    · exact Nat.le_of_lt (ownA y c z)
    · have q' : F.scope.names.lookup y = some .cell := of_decide_eq_true q
      obtain ⟨c', hc⟩ := cell_has (n := s.heap.objs.size + 1) q'
      rw [hc] at z; cases z
  · have e1 : N[i]? = some y := e1
    have clen := C.len
    unfold startF at e2
    by_cases h1 : i < ps.length
    · have hq : (ps ++ fr)[i]? = some y := by
        rw [← S.pre, List.getElem?_take_of_lt (by omega)]
        exact e1
      rw [List.getElem?_append_left h1] at hq
      rw [List.getElem?_append_left (by rw [List.length_map]; omega), List.getElem?_map] at e2
      have ha : vs[i]? = some v := by
        cases e : vs[i]? with
        | none => rw [e] at e2; cases e2
        | some a => rw [e] at e2; cases e2; rfl
      obtain ⟨u, hu, rv⟩ := r.get ha
      have ndP : ps.Nodup := by
        have q := S.nd.sublist (List.take_sublist (ps.length + fr.length) N)
        rw [S.pre] at q
        exact (List.nodup_append.mp q).1
      refine ⟨u, rv, ?_⟩
      rcases S.par y (List.mem_of_getElem? hq) with k | k
      · exact .inl ⟨k, bindL_get ndP hq hu k⟩
      · obtain ⟨c, e⟩ := cell_has (n := s.heap.objs.size + 1) k
        refine .inr ⟨.inl k, c, ?_, ?_⟩
        · show (cellsFrom (s.heap.objs.size + 1) F.scope.names F.cl).lookup y = some c
          rw [cellsFrom_app, List.lookup_append, e]; rfl
        · have q := x.cell y c e
          rw [bindC_get ndP hq hu (by show F.scope.names.lookup y ≠ _; rw [k]; decide)] at q
          exact q
    · rw [List.getElem?_append_right (by rw [List.length_map]; omega), List.length_map] at e2
      by_cases h2 : i < ps.length + fr.length
      · have hq : (ps ++ fr)[i]? = some y := by
          rw [← S.pre, List.getElem?_take_of_lt (by omega)]
          exact e1
        rw [List.getElem?_append_right (by omega)] at hq
        rw [List.getElem?_append_left (by omega), hl] at e2
        obtain ⟨c, hc, hv⟩ := C.has (i - ps.length) y hq
        obtain ⟨u, ru, hu⟩ := hv v e2
        have hy := List.mem_of_getElem? hq
        exact ⟨u, ru, .inr ⟨.inr (S.frk y hy), c, capL y hy c hc, cellK hu⟩⟩
      · rw [List.getElem?_append_right (by omega), List.getElem?_replicate] at e2
        split at e2 <;> cases e2
  · rcases lk y c e with z | ⟨_, z⟩
    · exact ⟨_, x.cell y c z⟩
    · obtain ⟨v, q⟩ := (C.all y c z).2
      exact ⟨v, cellK q⟩
  · rcases lk y c e with z | ⟨_, z⟩
    · exact e0.hok.fresh (Nat.le_of_lt (ownA y c z))
    · exact (C.all y c z).1
  · have clen := C.len
    unfold startF
    show _ = N.length
    rw [List.length_append, List.length_append, List.length_map, List.length_replicate]
    omega
end Me
/-! Me15: statements, defs, the law. -/
namespace Me
open PySem PySem.Spec PyProof.Rows L2
open NdefX (TabsN NTab TabN)
open LamX (CodeO TabB ExtN)
variable [Reg]
section
variable {P : List Fn} {G : List (Str × PV)} {D : Tb} {F : Fns} {k : Nat} {L : List Nat}
structure CtxS (X : Cx) (sc : Scope) (k : Nat) (P : List Fn) (G : List (Str × PV)) (D : Tb) (F : Fns) : Prop where
  e : CtxE X sc k P G D F
  t : CtxT X sc
  p : PassesOwn (model X.prog X.w) X.A X.env X.xe
  kd : sc.kind = .function
  mkf : ∀ q, D.gq = some q → MkAt X ∧ X.env.qual = q
  tr : X.ex = [] ∧ X.stack = X.env :: X.outer ∧ X.env.frame = some X.env.locals
theorem sub_assign {X : Cx} {o : Expr} {apos : Pos} {ke : Expr} (h : notSlice ke = true) : ∀ v, assign (.Subscript o ke apos) X.env v = (do
      let ov ← holding [v] (eval o X.env)
      let iv ← holding [v, ov] (eval ke X.env)
      standAt apos
      holding [v, ov, iv] (setItem ov iv v)
      release [v, ov, iv] []) := fun v => by
  cases ke <;> first | rfl | cases h
theorem set_comp {X : Cx} {sc : Scope} {i : Nat} {y : Str} {py pos vpos : Pos} {a : E} {elt : Expr} {gs : List Comprehension} {scope : Scope} (C : CtxS X sc k P G D F) (hL : i ∉ L) (hi : X.N[i]? = some y) (hl : locB sc y = true) (h : chk P G D X.N sc a (.ListComp elt gs scope vpos) = true)
    (hw : (cellB sc y || swapB sc y py vpos scope) = true) : PS X (.Assign [.Name y py] (.ListComp elt gs scope vpos) pos) (tSs X.K L (ex F (.set i a))) := by
  obtain ⟨l, f⟩ := C.t.loc _ (locB_iff hl)
  by_cases hc : cellB sc y = true
  · refine ss_set hL (sE a _ X sc C.e h) (pg_name C.e.nd hi l f) ?_ stores_eq rfl
    have e1 : X.env.kindOf y = some .cell := by
      show X.env.scope.names.lookup y = _
      rw [C.e.sc]
      unfold cellB at hc
      split at hc
      · assumption
      · cases hc
    unfold swapsWithSole swapsWith
    simp only [e1]
    have e2 : (some NameKind.cell == some NameKind.local) = false := rfl
    rw [e2, Bool.and_false, Bool.false_and, Bool.false_and]
  · have hs : swapB sc y py vpos scope = true := by
      rcases Bool.or_eq_true_iff.mp hw with z | z
      · exact absurd z hc
      · exact z
    simp only [swapB, Bool.and_eq_true, Bool.not_eq_true'] at hs
    obtain ⟨⟨s1, s2⟩, s3⟩ := hs
    have hyl : X.env.scope.names.lookup y = some .local := by
      rw [C.e.sc]
      split at s1
      · assumption
      · cases s1
    cases a <;> simp only [chk, Bool.false_eq_true] at h
    case wall => exact ⟨fun pins s σ H D I q => by obtain ⟨_, _, _, _, _, e, _⟩ := q; simp [ex, ev] at e⟩
    case comp elt' t own it cd =>
      split at h
      · rename_i x tg iter ifs scope' pos' heq
        cases heq
        simp only [Bool.and_eq_true] at h
        obtain ⟨⟨⟨⟨⟨⟨h1, h2⟩, h3⟩, h4⟩, h5⟩, h6⟩, h7⟩ := h
        have hown : ∀ i ∈ tgSl t, i ∈ own.map (·.2) := fun i hi => by
          have := List.all_eq_true.mp h2 i hi
          rwa [List.contains_iff_mem] at this
        refine PS_imp (ps_setLc (i := i) (te := tE X.K (calmE elt') (ev F elt')) (tt := tTs X.K (calmC cd) (evC F cd)) (g := gT X.K t) C.e.calm C.e.nd hi hyl (sw_true (by rw [C.e.sc]; exact C.kd) hyl s2 s3) (sI it tg iter X sc C.e h5) (by rw [C.e.sc]; exact blkOk_by h1)
          (fun s H c cl fp => tg_pg (X := X.blk s H scope (compEnvC scope cl c X.env) fp) C.e.calm C.e.nd (CtxT.blk s H scope c cl fp) h4)
          (fun s H c cl fp => sC cd ifs (X.blk s H scope (compEnvC scope cl c X.env) fp) (relS scope sc) (C.e.blk s H scope c cl fp) h6)
          (fun s H c cl fp => sE elt' elt (X.blk s H scope (compEnvC scope cl c X.env) fp) (relS scope sc) (C.e.blk s H scope c cl fp) h7) (set_eq h3)) fun D σ H q => ?_
        exact lc_ok hown (set_core hL q)
      · cases h
mutual
theorem sS : ∀ (a : S) (st : Stmt) (X : Cx) (sc : Scope) (L : List Nat), CtxS X sc k P G D F → chkS P G D X.N L sc a st = true → PS X st (tSs X.K L (ex F a))
  | .wall, st, X, sc, L, C, h => ⟨fun pins s σ H D I q => by obtain ⟨_, _, _, _, _, e, _⟩ := q; cases e⟩
  | .raise _ _, st, X, sc, L, C, h => ⟨fun pins s σ H D I q => by obtain ⟨_, _, _, _, _, e, _⟩ := q; cases e⟩
  | .orO j w o, st, X, sc, L, C, h => by
    unfold chkS at h
    split at h
    · rename_i tg iter jn py x ap pos
      simp only [Bool.and_eq_true, decide_eq_true_eq, Bool.not_eq_true'] at h
      obtain ⟨h1, h2, h3, h4, h5, h6, h7, h8, h9⟩ := h
      have jL : j ∉ L := fun z => by
        rw [List.contains_iff_mem.mpr z] at h4
        cases h4
      have wL : w ∉ L := fun z => by
        rw [List.contains_iff_mem.mpr z] at h5
        cases h5
      obtain ⟨l, f⟩ := C.t.loc _ (locB_iff h7)
      have hx : PE X x (tE X.K true (ev F (.bin .BitOr (.var j) (.var w)))) := sE (.bin .BitOr (.var j) (.var w)) _ X sc C.e h9
      refine ss_orO (fe := ev F (.bin .BitOr (.var j) (.var w))) C.p C.e.calm (sE o _ X sc C.e h3) (tg_pg C.e.calm C.e.nd C.t h2) (pss_one (ps_asg hx (pg_name C.e.nd h6 l f) (by unfold swapsWithSole; exact swap_eq h8) stores_eq rfl)) (set_eq h1) jL wL fun env a n ga gn => ?_
      simp only [ev, ga, gn, Option.bind_some, calmE, gd, stB, pvb, slb, Sl.sub, Sl.pv, Option.map_some, bin2]
      rfl
    · cases h
  | .pass, st, X, sc, L, C, h => by
    unfold chkS at h
    split at h
    · exact ss_pass
    · cases h
  | .brk, st, X, sc, L, C, h => by
    unfold chkS at h
    split at h
    · exact ss_brk
    · cases h
  | .set i a, st, X, sc, L, C, h => by
    unfold chkS at h
    split at h
    · rename_i y py v pos
      simp only [Bool.and_eq_true, decide_eq_true_eq] at h
      obtain ⟨⟨⟨⟨h0, h1⟩, h2⟩, h3⟩, h4⟩ := h
      have hL : i ∉ L := fun z => by
        rw [List.contains_iff_mem.mpr z] at h0
        cases h0
      obtain ⟨l, f⟩ := C.t.loc _ (locB_iff h2)
      by_cases hn : notComp v = true
      · exact ss_set hL (sE a _ X sc C.e h3) (pg_name C.e.nd h1 l f) (by unfold swapsWithSole; exact swap_eq hn) stores_eq rfl
      · rcases Bool.or_eq_true_iff.mp h4 with z | z
        · exact absurd z hn
        · split at z
          · exact set_comp C hL h1 h2 h3 z
          · cases z
    · cases h
  | .expr a, st, X, sc, L, C, h => by
    unfold chkS at h
    split at h
    · simp only [Bool.and_eq_true] at h
      exact ss_expr (sE a _ X sc C.e h.2) (swap_eq h.1)
    · cases h
  | .ret l a, st, X, sc, L, C, h => by
    unfold chkS at h
    split at h
    · simp only [Bool.and_eq_true, decide_eq_true_eq] at h
      exact ss_ret h.1 (sE a _ X sc C.e h.2)
    · cases h
  | .retN, st, X, sc, L, C, h => by
    unfold chkS at h
    split at h
    · exact ss_retN
    · cases h
  | .ife c a b, st, X, sc, L, C, h => by
    unfold chkS at h
    split at h
    · simp only [Bool.and_eq_true] at h
      exact ss_if (sT c _ X sc C.e h.1.1) (sSs a _ X sc L C h.1.2) (sSs b _ X sc L C h.2)
    · cases h
  | .for t it b, st, X, sc, L, C, h => by
    unfold chkS at h
    split at h
    · simp only [Bool.and_eq_true] at h
      obtain ⟨⟨⟨⟨h0, h1⟩, h2⟩, h3⟩, h4⟩ := h
      exact ss_for C.p C.e.calm (sI it _ _ X sc C.e h3) (fun i hi z => by
        have := List.all_eq_true.mp h0 i hi
        rw [List.contains_iff_mem.mpr z] at this
        cases this) (tg_pg C.e.calm C.e.nd C.t h2) (sSs b _ X sc L C h4) (set_eq h1)
    · cases h
  | .app o a, st, X, sc, L, C, h => by
    unfold chkS at h
    split at h
    · simp only [Bool.and_eq_true] at h
      obtain ⟨⟨⟨⟨⟨h1, h2⟩, h3⟩, h4⟩, h5⟩, h6⟩ := h
      have e1 := nm_eq h1
      subst e1
      exact ss_app (sE o _ X sc C.e h5) (sE a _ X sc C.e h6) (base_eq h2) (star_eq h3) h4
    · cases h
  | .stx o ke a, st, X, sc, L, C, h => by
    unfold chkS at h
    split at h
    · simp only [Bool.and_eq_true] at h
      obtain ⟨⟨⟨⟨h1, h2⟩, h3⟩, h4⟩, h5⟩ := h
      exact ss_stx (Room.hu64 C.e.room) (sE o _ X sc C.e h3) (sE a _ X sc C.e h5) (sE ke _ X sc C.e h4) (by unfold swapsWithSole; exact swap_eq h1) (swap_eq h1) stores_eq2 (sub_assign h2)
    · cases h
  | .pop o, st, X, sc, L, C, h => by
    unfold chkS at h
    split at h
    · simp only [Bool.and_eq_true] at h
      obtain ⟨⟨⟨h1, h2⟩, h3⟩, h4⟩ := h
      have e1 := nm_eq h1
      subst e1
      exact ss_pop (sE o _ X sc C.e h4) (base_eq h2) h3
    · cases h
  | .fld o f cs a, st, X, sc, L, C, h => by
    unfold chkS at h
    split at h
    · simp only [Bool.and_eq_true] at h
      obtain ⟨⟨⟨⟨⟨h1, h2⟩, h3⟩, h4⟩, h5⟩, h6⟩ := h
      have e1 := nm_eq h1
      subst e1
      exact ss_fld (fun c hc => C.e.at' c f (inB_iff (List.all_eq_true.mp h3 c (List.contains_iff_mem.mp hc))) (inB_iff h2)) (sE o _ X sc C.e h5) (sE a _ X sc C.e h6) (swap_eq h4)
    · cases h
theorem sSs : ∀ (a : Ss) (st : List Stmt) (X : Cx) (sc : Scope) (L : List Nat), CtxS X sc k P G D F → chkSs P G D X.N L sc a st = true → PSs X st (tSs X.K L (exs F a))
  | .nil, st, X, sc, L, C, h => by
    cases st <;> simp only [chkSs, Bool.false_eq_true] at h
    exact ss_nil
  | .cons a as, st, X, sc, L, C, h => by
    cases st <;> simp only [chkSs, Bool.false_eq_true, Bool.and_eq_true] at h
    exact ss_cons (sS a _ X sc L C h.1) (sSs as _ X sc L C h.2)
end
end


/-! ### how a text raises -/
section
variable (P : List Fn) (G : List (Str × PV)) (D : Tb) (N : List Str)
mutual
noncomputable def chkX [RegS] (L : List Nat) (sc : Scope) : S → Stmt → Bool
  | .raise c e, s => match s with | .Raise (some (.Call (.Name cn _) [x] [] _)) none _ => nm c cn && ((D.xs.lookup c).isSome && (glB sc cn && (okName cn && (notStar x && chk P G D N sc e x)))) | _ => false
  | .ife c a b, s => match s with | .If t x y _ => chkT P G D N sc c t && (chkXs L sc a x && chkXs L sc b y) | _ => false
  | .for t it b, s => match s with | .For tg iter x [] _ => (tgSl t).all (fun i => !L.contains i) && (notSet iter && (tgB sc N t tg && (chkI P G D N sc it tg iter && (chkSs P G D N L sc b x && chkXs L sc b x)))) | _ => false
  | _, _ => true
noncomputable def chkXs [RegS] (L : List Nat) (sc : Scope) : Ss → List Stmt → Bool
  | .cons a as, s => match s with | x :: xs => chkX L sc a x && (chkS P G D N L sc a x && chkXs L sc as xs) | _ => false
  | _, _ => true
end
end
section
variable {P : List Fn} {G : List (Str × PV)} {D : Tb} {F : Fns} {k : Nat}
mutual
theorem sX : ∀ (a : S) (st : Stmt) (X : Cx) (sc : Scope) (L : List Nat) (W : WX), CtxS X sc k P G D F → Takes X W → chkX P G D X.N L sc a st = true → PS X st (tXs X.K D.xs L W (exX F a))
  | .raise c e, st, X, sc, L, W, C, tk, h => by
    unfold chkX at h
    split at h
    · simp only [Bool.and_eq_true] at h
      obtain ⟨h1, h2, h3, h4, h5, h6⟩ := h
      have e1 := nm_eq h1
      subst e1
      obtain ⟨fl, hx⟩ := Option.isSome_iff_exists.mp h2
      exact sx_raise C.e.calm tk (C.e.xr c fl hx).1 hx C.e.room (by show X.env.scope.names.lookup _ = _; rw [C.e.sc]; exact glB_iff h3) (sE e _ X sc C.e h6) (okName_iff h4).1 (star_eq h5)
    · cases h
  | .ife c a b, st, X, sc, L, W, C, tk, h => by
    unfold chkX at h
    split at h
    · simp only [Bool.and_eq_true] at h
      exact sx_if (sT c _ X sc C.e h.1) (sXs a _ X sc L W C tk h.2.1) (sXs b _ X sc L W C tk h.2.2)
    · cases h
  | .pass, st, X, sc, L, W, C, tk, h => sx_none
  | .wall, st, X, sc, L, W, C, tk, h => sx_none
  | .set _ _, st, X, sc, L, W, C, tk, h => sx_none
  | .expr _, st, X, sc, L, W, C, tk, h => sx_none
  | .ret _ _, st, X, sc, L, W, C, tk, h => sx_none
  | .retN, st, X, sc, L, W, C, tk, h => sx_none
  | .for t it b, st, X, sc, L, W, C, tk, h => by
    unfold chkX at h
    split at h
    · simp only [Bool.and_eq_true] at h
      obtain ⟨h0, h1, h2, h3, h4, h5⟩ := h
      exact sx_for C.p C.e.calm (sI it _ _ X sc C.e h3) (fun i hi z => by
        have := List.all_eq_true.mp h0 i hi
        rw [List.contains_iff_mem.mpr z] at this
        cases this) (tg_pg C.e.calm C.e.nd C.t h2) (sXs b _ X sc L W C tk h5) (sSs b _ X sc L C h4) (set_eq h1)
    · cases h
  | .app _ _, st, X, sc, L, W, C, tk, h => sx_none
  | .stx _ _ _, st, X, sc, L, W, C, tk, h => sx_none
  | .pop _, st, X, sc, L, W, C, tk, h => sx_none
  | .fld _ _ _ _, st, X, sc, L, W, C, tk, h => sx_none
  | .brk, st, X, sc, L, W, C, tk, h => sx_none
  | .orO _ _ _, st, X, sc, L, W, C, tk, h => sx_none
theorem sXs : ∀ (a : Ss) (st : List Stmt) (X : Cx) (sc : Scope) (L : List Nat) (W : WX), CtxS X sc k P G D F → Takes X W → chkXs P G D X.N L sc a st = true → PSs X st (tXs X.K D.xs L W (exsX F a))
  | .nil, st, X, sc, L, W, C, tk, h => sx_nil
  | .cons a as, st, X, sc, L, W, C, tk, h => by
    cases st with
    | nil => unfold chkXs at h; cases h
    | cons x xs =>
      unfold chkXs at h
      simp only [Bool.and_eq_true] at h
      exact sx_cons (sX a _ X sc L W C tk h.1) (sS a _ X sc L C h.2.1) (sXs as _ X sc L W C tk h.2.2)
end
end
/-! ### a def that ends with a def and gives it back -/
/-- the body of the def that ends a body -/
noncomputable def lastDef : List Stmt → List Stmt
  | [.FunctionDef _ _ b _ _ _ _ _ _ _, _] => b
  | _ :: xs => lastDef xs
  | [] => []
section
variable (P : List Fn) (G : List (Str × PV)) (D : Tb) (N : List Str)
noncomputable def chkB [RegS] (sc : Scope) : Ss → List Stmt → Bool
  | .cons a as, s => match s with | x :: xs => chkS P G D N [] sc a x && chkB sc as xs | _ => false
  | .nil, s => match s with | [] => true | _ => false
end
noncomputable def endG : Ss → Option Nat
  | .cons _ as => endG as
  | .nil => none
structure StF (X : Cx) (g : Nat) (js : List Nat) : Prop where
  at' : js.map (fun j => X.N[j]?) = (RegS.nf g).fr.map some
  sub : ∀ y ∈ (RegS.nf g).scope.names, y.2 = .free → y.1 ∈ (RegS.nf g).fr
  sup : ∀ y ∈ (RegS.nf g).fr, (y, NameKind.free) ∈ (RegS.nf g).scope.names
  cell : ∀ y ∈ (RegS.nf g).fr, X.env.scope.names.lookup y = some .cell
/-- the function stands at f, at the def's end -/
noncomputable def CloX (X : Cx) (H0 M0 : Hp) (g : Nat) (ps : List PV) (f : Addr) (σ : L2.St) (H : Hp) : Prop := ∃ (c' : Addr) (js : List Nat) (vs : List V) (M : Hp), RegS.inn g = true ∧ StF X g js ∧ M f = some (CloO f (RegS.nf g) (cloFrom X.env.cells (RegS.nf g).scope.names []) c') ∧ M c' = some (CodeO c' (RegS.nf g).qual) ∧
  vs.length = js.length ∧ (∀ (n : Nat) (j : Nat), js[n]? = some j → ∃ v, vs[n]? = some v ∧ σ[j]? = some (some v)) ∧ Reps X.K M vs ps ∧ Hyp X.K H0 M0 M H []
noncomputable def EndB (X : Cx) (H0 M0 : Hp) (Dn : L2.St → Hp → Prop) (Dq : V → Hp → Prop) (Dc : V → L2.St → Hp → Prop) : Fl → Prop
  | .next e => ∀ σ H, SA X.K H0 M0 σ e [] H → Dn σ H
  | .ret s e => (∀ v σ H, SA X.K H0 M0 σ e [(v, .t s)] H → Dq v H) ∧ ∀ g ps f σ H, s = .sh (.fn g ps) → CloX X H0 M0 g ps f σ H → Dc (.ref f) σ H
  | .brk _ => False
noncomputable def SPB (X : Cx) (pins : List (Addr × Obj)) (Dn : L2.St → Hp → Prop) (Dq : V → Hp → Prop) (Dc : V → L2.St → Hp → Prop) (fl : Flow) (s' : Shared) : Prop := match fl with
  | .next => ∃ σ' H', Inv X pins σ' H' s' ∧ Dn σ' H'
  | .ret u => ∃ v σ' H', Inv X pins σ' H' s' ∧ RelV v u ∧ (Dq v H' ∨ Dc v σ' H')
  | _ => False
structure PB (X : Cx) (sts : List Stmt) (f : PEnv → Option Fl) : Prop where
  run : ∀ (pins : List (Addr × Obj)) (s : Shared) (σ : L2.St) (H H0 M0 : Hp) (env : PEnv) (r : Fl) (Dn : L2.St → Hp → Prop) (Dq : V → Hp → Prop) (Dc : V → L2.St → Hp → Prop), Inv X pins σ H s → f env = some r → SA X.K H0 M0 σ env [] H → EndB X H0 M0 Dn Dq Dc r →
    wpAny (model X.prog X.w) X.A (execs sts X.env) (SPB X pins Dn Dq Dc) X.xe s
theorem pb_cons {X : Cx} {st : Stmt} {sts : List Stmt} {fs gs : PEnv → Option Fl} (h1 : PS X st (tSs X.K [] fs)) (h2 : PB X sts gs) : PB X (st :: sts) (fun env => (fs env).bind fun r => match r with | .next e => gs e | .ret v e => some (.ret v e) | .brk e => some (.brk e)) := by
  refine ⟨fun pins s σ H H0 M0 env r Dn Dq Dc I e sa k => ?_⟩
  obtain ⟨r1, e1, e⟩ := ob e
  refine wpAny_execs_cons (thn (h1.run pins s σ H { nx := fun σ1 H1 => match r1 with | .next e2 => SA X.K H0 M0 σ1 e2 [] H1 | _ => False, rt := Dq } I ⟨H0, M0, env, [], r1, e1, ⟨noB.nil, Roots.nil⟩, sa, ?_⟩) fun fl s1 q => ?_)
  · cases r1 with
    | next e2 => exact fun σ' H' sa' => sa'
    | ret v e2 => cases e; exact fun v σ H sa' => k.1 v σ H sa'
    | brk e2 => cases e; exact k.elim
  · cases fl with
    | next =>
      obtain ⟨σ', H', I', q⟩ := q
      cases r1 with
      | next e2 => exact h2.run pins s1 σ' H' H0 M0 e2 r Dn Dq Dc I' e q k
      | ret v e2 => exact q.elim
      | brk e2 => exact q.elim
    | ret u =>
      obtain ⟨v, σ', H', I', rv, q⟩ := q
      exact ⟨v, σ', H', I', rv, .inl q⟩
    | brk => obtain ⟨_, _, _, q⟩ := q; exact q.elim
    | cont => obtain ⟨_, _, _, q⟩ := q; exact q.elim
theorem pb_nil {X : Cx} : PB X [] (fun env => some (.next env)) := ⟨fun pins s σ H H0 M0 env r Dn Dq Dc I e sa k => by cases e; exact wpAny_execs_nil ⟨σ, H, I, k σ H sa⟩⟩
theorem sB {P : List Fn} {G : List (Str × PV)} {D : Tb} {F : Fns} {k : Nat} : ∀ (a : Ss) (st : List Stmt) (X : Cx) (sc : Scope), CtxS X sc k P G D F → chkB P G D X.N sc a st = true → (∀ g, endG a = some g → (RegS.nf g).body = .inl (lastDef st)) → PB X st (exs F a)
  | .nil, st, X, sc, C, h, _ => by
    cases st with
    | nil => exact pb_nil
    | cons x xs => unfold chkB at h; cases h
  | .cons a as, st, X, sc, C, h, hg => by
    cases st with
    | nil => unfold chkB at h; cases h
    | cons x xs =>
      unfold chkB at h
      simp only [Bool.and_eq_true] at h
      refine pb_cons (sS a _ X sc _ C h.1) (sB as _ X sc C h.2 fun g e => ?_)
      have nn : as ≠ .nil := fun z => by rw [z] at e; cases e
      rw [hg g e]
      congr 1
      cases xs with
      | nil => cases as <;> first | exact absurd rfl nn | (have := h.2; unfold chkB at this; cases this)
      | cons z zs =>
        cases zs with
        | nil => cases as with
          | nil => exact absurd rfl nn
          | cons b bs => cases bs <;> first | (cases e; done) | (have := h.2; simp [chkB] at this)
        | cons u us => cases x <;> rfl
/-! ### a def, all defs -/
theorem Lv.start : ∀ (vs : List V) (ps : List Sl) (n : Nat), vs.length = ps.length → Lv (vs.map some ++ List.replicate n none) (ps.map some ++ List.replicate n none) (vs.zip ps)
  | [], [], 0, _ => .nil
  | [], [], n + 1, _ => .skip (Lv.start [] [] n rfl)
  | v :: vs, p :: ps, n, h => .live (Lv.start vs ps n (by simpa using h))
  | [], _ :: _, _, h => by simp at h
  | _ :: _, [], _, h => by simp at h
theorem run_len {f : Fn} {F : Fns} {args : List Sl} {r : Sl × List Sl} (h : f.run F args = some r) : args.length = f.ps.length := by
  unfold Fn.run at h
  split at h
  · assumption
  · cases h
/-- what is lent stays in its slots -/
noncomputable def pinsOf : Nat → List Bool → List V → List (V × Bw)
  | n, true :: ls, v :: vs => (v, .b n []) :: pinsOf (n + 1) ls vs
  | n, false :: ls, _ :: vs => pinsOf (n + 1) ls vs
  | _, _, _ => []
theorem pins_mem : ∀ {ls : List Bool} {vs : List V} {n : Nat} {v : V} {i : Nat} {π : List Nat}, (v, Bw.b i π) ∈ pinsOf n ls vs → π = [] ∧ i ∈ lentIx n ls ∧ n ≤ i ∧ vs[i - n]? = some v ∧ ls[i - n]? = some true
  | [], _, _, _, _, _, h => by simp [pinsOf] at h
  | true :: _, [], _, _, _, _, h => by simp [pinsOf] at h
  | false :: _, [], _, _, _, _, h => by simp [pinsOf] at h
  | true :: ls, w :: vs, n, v, i, π, h => by
    simp only [pinsOf, List.mem_cons] at h
    rcases h with h | h
    · simp only [Prod.mk.injEq, Bw.b.injEq] at h
      obtain ⟨rfl, rfl, rfl⟩ := h
      exact ⟨rfl, by simp [lentIx], Nat.le_refl _, by simp, by simp⟩
    · obtain ⟨h1, h2, h3, h4, h5⟩ := pins_mem h
      have : i - n = (i - (n + 1)) + 1 := by omega
      exact ⟨h1, by simp [lentIx, h2], by omega, by rw [this]; simpa using h4, by rw [this]; simpa using h5⟩
  | false :: ls, w :: vs, n, v, i, π, h => by
    simp only [pinsOf] at h
    obtain ⟨h1, h2, h3, h4, h5⟩ := pins_mem h
    have : i - n = (i - (n + 1)) + 1 := by omega
    exact ⟨h1, by simp [lentIx, h2], by omega, by rw [this]; simpa using h4, by rw [this]; simpa using h5⟩
theorem mem_pins : ∀ {ls : List Bool} {vs : List V} {n j : Nat} {v : V}, vs[j]? = some v → ls[j]? = some true → (v, Bw.b (n + j) []) ∈ pinsOf n ls vs
  | [], _, _, _, _, _, h => by simp at h
  | _ :: _, [], _, _, _, h, _ => by simp at h
  | true :: ls, w :: vs, n, 0, v, h, g => by simp at h; subst h; simp [pinsOf]
  | false :: ls, w :: vs, n, 0, v, h, g => by simp at g
  | true :: ls, w :: vs, n, j + 1, v, h, g => by
    have := mem_pins (n := n + 1) (j := j) (v := v) (vs := vs) (ls := ls) (by simpa using h) (by simpa using g)
    simp only [pinsOf, List.mem_cons]
    right
    rw [show n + (j + 1) = n + 1 + j by omega]
    exact this
  | false :: ls, w :: vs, n, j + 1, v, h, g => by
    have := mem_pins (n := n + 1) (j := j) (v := v) (vs := vs) (ls := ls) (by simpa using h) (by simpa using g)
    simp only [pinsOf]
    rw [show n + (j + 1) = n + 1 + j by omega]
    exact this
theorem tents_pins : ∀ {ls : List Bool} {vs : List V} {n : Nat}, tents (pinsOf n ls vs) = []
  | [], _, _ => by simp [pinsOf, tents]
  | true :: _, [], _ => by simp [pinsOf, tents]
  | false :: _, [], _ => by simp [pinsOf, tents]
  | true :: ls, w :: vs, n => by simp only [pinsOf]; rw [tents_b]; exact tents_pins
  | false :: ls, w :: vs, n => by simp only [pinsOf]; exact tents_pins
/-- what was lent, in the slots at the end -/
theorem backs_sub : ∀ {ls : List Bool} {vs : List V} {σ : L2.St} {env : PEnv} {E : List (V × Sl)} {bk : List Sl}, Lv σ env E → backs ls env = some bk → (∀ (j : Nat) (v : V), ls[j]? = some true → vs[j]? = some v → σ[j]? = some (some v)) → List.Sublist ((selL ls vs).zip bk) E
  | [], vs, σ, env, E, bk, _, _, _ => by simp [selL]
  | true :: _, [], σ, env, E, bk, _, _, _ => by simp [selL]
  | false :: _, [], σ, env, E, bk, _, _, _ => by simp [selL]
  | true :: ls, v :: vs, _, _, _, bk, .nil, h, _ => by simp [backs] at h
  | false :: ls, v :: vs, _, _, _, bk, .nil, h, _ => by simp [backs] at h
  | true :: ls, v :: vs, _, _, _, bk, .skip l, h, _ => by simp [backs] at h
  | true :: ls, v :: vs, _, _, _, bk, .live (s := s) l, h, q => by
    simp only [backs, Option.map_eq_some_iff] at h
    obtain ⟨r, h1, rfl⟩ := h
    have e := q 0 v (by simp) (by simp)
    simp at e
    subst e
    show List.Sublist ((_, s) :: (selL ls vs).zip r) ((_, s) :: _)
    exact (backs_sub l h1 fun j w a b => by simpa using q (j + 1) w (by simpa using a) (by simpa using b)).cons_cons _
  | false :: ls, v :: vs, _, _, _, bk, .skip l, h, q => by
    simp only [backs] at h
    show List.Sublist ((selL ls vs).zip bk) _
    exact backs_sub l h fun j w a b => by simpa using q (j + 1) w (by simpa using a) (by simpa using b)
  | false :: ls, v :: vs, _, _, _, bk, .live l, h, q => by
    simp only [backs] at h
    show List.Sublist ((selL ls vs).zip bk) _
    exact (backs_sub l h fun j w a b => by simpa using q (j + 1) w (by simpa using a) (by simpa using b)).cons _
/-- a def as it stands behind the top, its defaults any -/
structure FunY (K : PySem.W.Frag) (x qual : Str) (st : Stmt) (f : Addr) (fd : FuncData) : Prop where
  ex : ∃ (oc : Value) (od : Option Addr) (dV kV doc pm : Value) (an : Option Addr) (cdv ct : Value) (osl : Array (Option Value)),
    fd = PySem.W.fnOf x qual (defArgs st) (defBody st) (defScope st) dV kV doc pm an cdv ct ∧ K.lookup f = some ⟨oc, od, .func fd, osl⟩ ∧ PySem.W.codeIn K cdv qual = true
  kp : PySem.W.keepIn K (.ref f) = true
section
variable {Pr : Program} {w : World} {K : PySem.W.Frag} {mg : Str → Option Value} {base : Heap}
theorem FunY.ok {x qual : Str} {st : Stmt} {f : Addr} {fd : FuncData} {N ps : List Str} {k : Nat} {sp : Sp} (F : FunY K x qual st f fd) (S : FnScope N ps (defScope st)) (len : ∀ vs H Q E, sp vs H Q E → vs.length = ps.length)
    (hbody : ∀ (cdv : Value) (A : Around) (outer : List Env) (s : Shared) (H : Hp) (vs : List V) (Q : VK) (E : XK), Room k (A.deeper (envOfC qual (defScope st) s.heap.objs.size f cdv)) → sp vs H Q E →
      ∃ t, PSs (cxOf CX0 Pr w K mg base N qual (defScope st) f cdv A outer s H E).nox (defBody st) t ∧ t { nx := fun _ H' => Q .non H', rt := Q } (start N vs) H) : FnOk Pr w K mg base CX0 (k + 1) f fd ps sp := by
  obtain ⟨oc, od, dV, kV, doc, pm, an, cdv, ct, osl, rfl, lk, hcd⟩ := F.ex
  refine fn_of lk hcd S len fun A outer s H vs Q E hr hsp => ?_
  obtain ⟨t, h, q⟩ := hbody cdv A outer s H vs Q E hr hsp
  exact ⟨t, h.nox, q⟩
theorem funY_mk {x qual : Str} {st : Stmt} {f : Addr} {oc : Value} {od an : Option Addr} {osl : Array (Option Value)} {dV kV doc pm cdv ct : Value} (l : K.lookup f = some ⟨oc, od, .func (PySem.W.fnOf x qual (defArgs st) (defBody st) (defScope st) dV kV doc pm an cdv ct), osl⟩)
    (c : PySem.W.codeIn K cdv qual = true) (k : PySem.W.keepIn K (.ref f) = true) : FunY K x qual st f (PySem.W.fnOf x qual (defArgs st) (defBody st) (defScope st) dV kV doc pm an cdv ct) := ⟨⟨oc, od, dV, kV, doc, pm, an, cdv, ct, osl, rfl, l, c⟩, k⟩
theorem binds_all {fd : FuncData} {ps : List Str} (h : ∀ us : List Value, us.length = ps.length → bindArgs fd ⟨us, []⟩ = pure (ps.zip us)) : Binds K fd ps [] ∧ (ps.length = 1 → ∀ us : List Value, us.length = ps.length → bindArgs fd ⟨us, []⟩ = pure (ps.zip us)) := ⟨.all h, fun _ => h⟩
end
/-- the written texts of the defs, as the head leaves them; ad: where each stands; cs: the code objects that make functions, their tables -/
structure Txts (K : PySem.W.Frag) (mg : Str → Option Value) (ad : Nat → Addr) (P : List Fn) (G : List (Str × PV)) (D : Tb) (cs : List (Addr × Addr)) : Prop where
  fn : ∀ (g : Nat) (f : Fn), P[g]? = some f → f.kd = 0 → ∃ (st : Stmt) (fd : FuncData), FunY K f.name f.qn st (ad g) fd ∧ FnScope f.N f.ps (defScope st) ∧ chkSs P G D f.N (lentIx 0 f.lent) (defScope st) f.body (defBody st) = true ∧ (f.top = true → mg f.name = some (.ref (ad g))) ∧ (Binds K fd f.ps [] ∧ (f.ps.length = 1 → ∀ us : List Value, us.length = f.ps.length → bindArgs fd ⟨us, []⟩ = pure (f.ps.zip us))) ∧ f.lent.length ≤ f.ps.length ∧ ∀ d, D.df.lookup g = some d → ∃ ds, Vals [.int d] ds ∧ Binds K fd f.ps ds
  gv : ∀ (g : Nat) (f : Fn), P[g]? = some f → f.kd = 1 → ∃ (st : Stmt) (fd : FuncData) (oc : Value) (od : Option Addr) (osl : Array (Option Value)) (kV doc pm : Value) (an : Option Addr) (c Pa : Addr) (ct : Value), fd = PySem.W.fnOf f.name f.qn (defArgs st) (defBody st) (defScope st) .none kV doc pm an (.ref c) ct ∧
    K.lookup (ad g) = some ⟨oc, od, .func fd, osl⟩ ∧ PySem.W.codeIn K (.ref c) f.qn = true ∧ PySem.W.keepIn K (.ref (ad g)) = true ∧ FnScope f.N f.ps (defScope st) ∧ chkB P G { D with gq := some (f.qn ++ ".<locals>.") } f.N (defScope st) f.body (defBody st) = true ∧ (∀ g', endG f.body = some g' → (RegS.nf g').body = .inl (lastDef (defBody st))) ∧
    (f.top = true → mg f.name = some (.ref (ad g))) ∧ (∀ us : List Value, us.length = f.ps.length → bindArgs fd ⟨us, []⟩ = pure (f.ps.zip us)) ∧ f.lent = [] ∧ (c, Pa) ∈ cs
  inr : ∀ (g : Nat) (f : Fn), P[g]? = some f → f.kd = 2 → ∃ ps : List Str, f.ps = ps ++ (RegS.nf g).fr ∧ NScopeC f.N ps (RegS.nf g).fr (RegS.nf g).scope ∧ (∀ (cl : List (Str × Addr)) (c : Addr) (doc pm ctv : Value) (us : List Value), us.length = ps.length → bindArgs ((RegS.nf g).fd cl c doc pm ctv) ⟨us, []⟩ = pure (ps.zip us)) ∧ f.lent = [] ∧ f.top = false ∧
    ((∃ b, (RegS.nf g).body = .inl b ∧ chkSs P G D f.N [] (RegS.nf g).scope f.body b = true) ∨ ∃ e a, (RegS.nf g).body = .inr e ∧ f.body = .cons (.ret [] a) .nil ∧ chk P G D f.N (RegS.nf g).scope a e = true)
  inn : ∀ g, RegS.inn g = true → ∃ f, P[g]? = some f ∧ f.kd = 2
  kds : ∀ f ∈ P, f.kd = 0 ∨ f.kd = 1 ∨ f.kd = 2 ∨ f.kd = 3
  xd : ∀ (g : Nat) (f : Fn), P[g]? = some f → f.kd = 3 → ∃ (st : Stmt) (fd : FuncData), FunY K f.name f.qn st (ad g) fd ∧ FnScope f.N f.ps (defScope st) ∧ chkXs P G D f.N (lentIx 0 f.lent) (defScope st) f.body (defBody st) = true ∧ (f.lent.all (!·) = true → mg f.name = some (.ref (ad g))) ∧ Binds K fd f.ps [] ∧ f.top = false
  xr : ∀ c f, D.xs.lookup c = some f → (∀ (Pr : Program) (w : World) (base : Heap) (k : Nat), ∃ (C fI : Addr) (fd : FuncData) (ps : List Str), OexC K C ∧ ClsAt K c C ∧ mg c = some (.ref C) ∧ PySem.W.findIn K (.ref C) "__init__" = some (some (.ref fI)) ∧ PySem.W.typeIn K (.ref fI) = some (.type "function") ∧
    FnOk Pr w K mg base CX0 (k + 1) fI fd ps (spI K f) ∧ Binds K fd ps [] ∧ PySem.W.exmOne K (.ref C) (.ref C) = some true ∧ PySem.W.findIn K (.ref C) f = some none) ∧ ∃ C, ClsAt K c C ∧ XfC K C ∧ PySem.W.findIn K (.ref C) f = some none
  xi : ∀ t tb, D.xi.lookup t = some tb → ∃ (v : V) (u : Value), RelV v u ∧ (∀ u', RelV v u' → u' = u) ∧ (mg t = some u ∨ (mg t = none ∧ bootBuiltins t = some u ∧ t ≠ "__name__")) ∧ ∀ c b, tbF tb c = some b → ∃ C, ClsAt K c C ∧ ExcC K C ∧ PySem.W.kitOne K (.ref C) u = some b
  ads : Reg.ad K = cs.map (·.2)
  gq : D.gq = none
  k2m : (D.mt.all fun e => match P[e.2]? with | some f => decide (f.kd = 0) | none => true) = true
  k2n : (D.nw.all fun e => match P[e.2]? with | some f => decide (f.kd = 0) | none => true) = true
  mt : ∀ c m g, ((c, m), g) ∈ D.mt → ∃ C, ClsAt K c C ∧ Cls K C ∧ Meth K C m (ad g)
  mx : ∀ c m g, ((c, m), g) ∈ D.mx → ∃ C, ClsAt K c C ∧ Cls K C ∧ Meth K C m (ad g)
  nw : ∀ c g, (c, g) ∈ D.nw → ∃ C, ClsAt K c C ∧ mg c = some (.ref C) ∧ Mk K C (ad g)
  at' : ∀ c n, c ∈ D.cs → n ∈ D.fl → ∃ C, ClsAt K c C ∧ Cls K C ∧ NoAttr K C n
  isa : ∀ c, c ∈ D.cs → ∃ E, mg c = some (.ref E) ∧ ∀ c' b, ((c', c), b) ∈ D.isa → ∃ C, ClsAt K c' C ∧ InsO K C ∧ PySem.W.kitOne K (.ref C) (.ref E) = some b
  bl : ∀ n : String, (bTypes ++ bFuns ++ ["bool", "isinstance", "range", "enumerate", "zip", "reversed", "set", "dict"]).contains n = true → mg (n : Str) = none
  gl : ∀ g ∈ G, ∃ v u, mg g.1 = some u ∧ RelV v u ∧ ∀ M, Rep K M v g.2
/-- a def at a level of calls -/
noncomputable def FnLv (Pr : Program) (w : World) (K : PySem.W.Frag) (mg : Str → Option Value) (base : Heap) (ad : Nat → Addr) (P : List Fn) (n g : Nat) (f : Fn) : Prop :=
  ∃ fd : FuncData, FnOk Pr w K mg base CX0 (2 * n + 2) (ad g) fd f.ps (spF K f.lent (fns P n g)) ∧ PySem.W.keepIn K (.ref (ad g)) = true ∧ Binds K fd f.ps []
/-- all of a level -/
structure LvAll (Pr : Program) (w : World) (K : PySem.W.Frag) (mg : Str → Option Value) (base : Heap) (ad : Nat → Addr) (P : List Fn) (D : Tb) (n : Nat) : Prop where
  f : ∀ (g : Nat) (f : Fn), P[g]? = some f → f.kd ≠ 2 → f.kd ≠ 3 → FnLv Pr w K mg base ad P n g f
  x : ∀ (g : Nat) (f : Fn), P[g]? = some f → f.kd = 3 → ∃ fd : FuncData, FnOk Pr w K mg base (L2.CX Pr w) (2 * n + 2) (ad g) fd f.ps (spX K D.xs f.lent (fns P n g)) ∧ PySem.W.keepIn K (.ref (ad g)) = true ∧ Binds K fd f.ps []
  v : ∀ g : Nat, FvOk Pr w K mg base (2 * n + 2) g (fns P n g)
  d : ∀ (g : Nat) (f : Fn) (d : Int), P[g]? = some f → f.kd = 0 → D.df.lookup g = some d → ∃ (fd : FuncData) (ds : List Value), FnOk Pr w K mg base CX0 (2 * n + 2) (ad g) fd f.ps (spF K f.lent (fns P n g)) ∧ Vals [.int d] ds ∧ Binds K fd f.ps ds
section
variable {Pr : Program} {w : World} {K : PySem.W.Frag} {mg : Str → Option Value} {base : Heap} {ad : Nat → Addr} {P : List Fn} {G : List (Str × PV)} {D : Tb} {cs : List (Addr × Addr)}
theorem ctxE_of (T : Txts K mg ad P G D cs) {n : Nat} (ih : LvAll Pr w K mg base ad P D n) {X : Cx} {sc : Scope} (hp : X.prog = Pr) (hw : X.w = w) (hK : X.K = K) (hm : X.mg = mg) (hb : X.base = base) (hs : X.env.scope = sc) (nd : X.N.Nodup) (calm : X.calm = true) (hr : Room (2 * n + 2 + 1) X.A) : CtxE X sc (2 * n + 2) P G D (fns P n) := by
  subst hp; subst hw; subst hK; subst hm; subst hb
  refine ⟨hs, nd, calm, hr, fun g f hf ht => ?_, fun c m g f hm hf => ?_, fun c g f k hm hf hl => ?_, T.at', T.isa, T.bl, T.gl, ih.v, fun c f h => ?_, fun t tb h => ⟨T.xi t tb h⟩, fun g f hf hk hl => ?_, fun d m g f hm hf hk => ?_, fun c m g f d hm hf hl hd => ?_⟩
  · have hk : f.kd ≠ 2 := fun z => by
      obtain ⟨_, _, _, _, _, q, _⟩ := T.inr g f hf z
      rw [ht] at q; cases q
    have hk3 : f.kd ≠ 3 := fun z => by
      obtain ⟨_, _, _, _, _, _, _, q⟩ := T.xd g f hf z
      rw [ht] at q; cases q
    obtain ⟨fd, q1, q2, q3⟩ := ih.f g f hf hk hk3
    have ht' : X.mg f.name = some (.ref (ad g)) := by
      rcases T.kds f (List.mem_of_getElem? hf) with z | z | z | z
      · obtain ⟨_, _, _, _, _, q, _⟩ := T.fn g f hf z
        exact q ht
      · obtain ⟨_, _, _, _, _, _, _, _, _, _, _, _, _, _, _, _, _, _, _, q, _⟩ := T.gv g f hf z
        exact q ht
      · exact absurd z hk
      · exact absurd z hk3
    exact ⟨_, ⟨fd, f.ps, q1, q2, q3⟩, ht'⟩
  · have h0 : f.kd = 0 := by
      have := List.all_eq_true.mp T.k2m _ hm
      simpa only [hf, decide_eq_true_eq] using this
    obtain ⟨fd, q1, q2, q3⟩ := ih.f g f hf (by omega) (by omega)
    obtain ⟨C, c1, c2, c3⟩ := T.mt c m g hm
    exact ⟨C, _, c1, c2, c3, ⟨fd, f.ps, q1, q2, q3⟩⟩
  · have h0 : f.kd = 0 := by
      have := List.all_eq_true.mp T.k2n _ hm
      simpa only [hf, decide_eq_true_eq] using this
    obtain ⟨fd, q1, q2, q3⟩ := ih.f g f hf (by omega) (by omega)
    obtain ⟨C, c1, c2, c3⟩ := T.nw c g hm
    rw [hl] at q1
    exact ⟨C, _, c1, c2, c3, ⟨fd, f.ps, q1, q2, q3⟩⟩
  · obtain ⟨h1, C, c1, c2, c3⟩ := T.xr c f h
    refine ⟨⟨?_⟩, ⟨C, c1, c2, c3⟩⟩
    exact h1 X.prog X.w X.base (2 * n + 1)
  · obtain ⟨fd, q1, q2, q3⟩ := ih.x g f hf hk
    obtain ⟨_, _, _, _, _, q, _⟩ := T.xd g f hf hk
    exact ⟨_, fd, f.ps, q hl, q2, q1, q3⟩
  · obtain ⟨fd, q1, q2, q3⟩ := ih.x g f hf hk
    obtain ⟨C, c1, c2, c3⟩ := T.mx d m g hm
    exact ⟨C, _, fd, f.ps, c1, c2, c3, q1, q3⟩
  · have h0 : f.kd = 0 := by
      have := List.all_eq_true.mp T.k2m _ hm
      simpa only [hf, decide_eq_true_eq] using this
    obtain ⟨fd, ds, q1, q2, q3⟩ := ih.d g f d hf h0 hd
    obtain ⟨C, c1, c2, c3⟩ := T.mt c m g hm
    rw [hl] at q1
    exact ⟨C, _, fd, f.ps, ds, c1, c2, c3, q1, q2, q3⟩
/-- a def where it raises -/
theorem fn_bodyX (X : Txts K mg ad P G D cs) {n : Nat} (ih : LvAll Pr w K mg base ad P D n) {g : Nat} {f : Fn} (hg : P[g]? = some f) (hk : f.kd = 3) :
    ∃ fd : FuncData, FnOk Pr w K mg base (L2.CX Pr w) (2 * n + 2 + 1 + 1) (ad g) fd f.ps (spX K D.xs f.lent (fns P (n + 1) g)) ∧ PySem.W.keepIn K (.ref (ad g)) = true ∧ Binds K fd f.ps [] := by
  obtain ⟨st, fd, F, S, hc, _, hb, _⟩ := X.xd g f hg hk
  have er : ∀ args, fns P (n + 1) g args = f.run (fns P n) args := fun args => by simp only [fns, hg]
  refine ⟨fd, ?_, F.kp, hb⟩
  obtain ⟨oc, od, dV, kV, doc, pm, an, cdv, ct, osl, rfl, lk, hcd⟩ := F.ex
  refine fn_of lk hcd S (fun vs H Q E h => ?_) (fun A outer s H vs Q E hr h => ?_)
  · obtain ⟨H0, M, args, c, p, bk, h1, h2, h3, _⟩ := h
    rw [er] at h3
    rw [h1]
    exact run_len h3
  · obtain ⟨H0, M, args, c, p, bk, h1, h2, h3, h4⟩ := h
    rw [er] at h3
    have hl := run_len h3
    unfold Fn.run at h3
    rw [if_pos hl, if_pos hk] at h3
    obtain ⟨x, e1, e2⟩ := ob h3
    obtain ⟨r, e3, e4⟩ := om e2
    have ex1 : x.1 = c ∧ x.2.1 = p := by
      have := congrArg Prod.fst e4
      simpa using this
    have C : CtxS (cxOf (L2.CX Pr w) Pr w K mg base f.N f.qn (defScope st) (ad g) cdv A outer s H E) (defScope st) (2 * n + 2) P G D (fns P n) :=
      ⟨ctxE_of X ih rfl rfl rfl rfl rfl rfl S.nd rfl hr, ⟨fun x hx => ⟨hx, .inl rfl⟩⟩, passes_of rfl, S.kind, fun q e => (by rw [X.gq] at e; cases e), ⟨rfl, rfl, rfl⟩⟩
    have tk : Takes (cxOf (L2.CX Pr w) Pr w K mg base f.N f.qn (defScope st) (ad g) cdv A outer s H E) (fun cls d _ H => E cls d H) := takes_of rfl rfl rfl rfl
    refine ⟨_, sXs f.body (defBody st) _ _ (lentIx 0 f.lent) _ C tk hc, ?_⟩
    have ex2 : r = bk := congrArg Prod.snd e4
    subst ex2
    have sa : SA K H0 M (L2.start f.N vs) (args.map some ++ List.replicate (f.N.length - args.length) none) (pinsOf 0 f.lent vs) H := by
      refine ⟨vs.zip args, M, ?_, ?_, fun v i π hm => ?_⟩
      · have q := Lv.start vs args (f.N.length - args.length) h1
        unfold L2.start
        rw [h1]
        exact q
      · rw [tents_pins, List.append_nil]; exact h2
      · obtain ⟨rfl, _, _, h5, h6⟩ := pins_mem hm
        rw [Nat.sub_zero] at h5
        have hi := (List.getElem?_eq_some_iff.mp h5).1
        have hi3 : i < args.length := by rw [← h1]; exact hi
        refine ⟨v, ?_, .nil, ?_⟩
        · unfold L2.start
          rw [List.getElem?_append_left (by rw [List.length_map]; exact hi), List.getElem?_map, h5]; rfl
        · rw [List.getD_eq_getElem?_getD, List.getElem?_append_left (by rw [List.length_map]; exact hi3), List.getElem?_map, List.getElem?_eq_getElem hi3]; rfl
    refine ⟨H0, M, _, pinsOf 0 f.lent vs, x, e1, ⟨fun v i π hm => (pins_mem hm).2.1, fun v i π hm => (pins_mem hm).1⟩, sa, fun C2 d v σ' H' hX sa' => ?_⟩
    rw [ex1.1] at hX
    rw [ex1.2] at sa'
    refine h4 C2 d v H' hX ?_
    obtain ⟨E', M', sx⟩ := sa'
    refine ⟨M', ?_⟩
    have sub := backs_sub (vs := vs) sx.lv e3 fun j w a b => by
      obtain ⟨u0, u1, u2, _⟩ := sx.bor w (0 + j) [] (List.mem_append_left _ (mem_pins b a))
      cases u2
      simpa using u1
    have q := sx.hyp
    rw [tents_append, tents_pins, List.nil_append] at q
    exact (q.sublist (List.Sublist.append_right sub _)).perm List.perm_append_comm
theorem fn_body (X : Txts K mg ad P G D cs) {n : Nat} (ih : LvAll Pr w K mg base ad P D n)
    {g : Nat} {f : Fn} (hg : P[g]? = some f) {st : Stmt} {fd : FuncData} (F : FunY K f.name f.qn st (ad g) fd) (S : FnScope f.N f.ps (defScope st)) (hc : chkSs P G D f.N (lentIx 0 f.lent) (defScope st) f.body (defBody st) = true) (hlen : f.lent.length ≤ f.ps.length) (hk3 : ¬ f.kd = 3) :
    FnOk Pr w K mg base CX0 (2 * n + 2 + 1 + 1) (ad g) fd f.ps (spF K f.lent (fns P (n + 1) g)) := by
  have er : ∀ args, fns P (n + 1) g args = f.run (fns P n) args := fun args => by simp only [fns, hg]
  refine F.ok S (fun vs H Q E h => ?_) (fun cdv A outer s H vs Q E hr h => ?_)
  · obtain ⟨H0, M, args, r, h1, h2, h3, _⟩ := h
    rw [er] at h3
    rw [h1]
    exact run_len h3
  · obtain ⟨H0, M, args, r, h1, h2, h3, h4⟩ := h
    rw [er] at h3
    have C : CtxS (cxOf CX0 Pr w K mg base f.N f.qn (defScope st) (ad g) cdv A outer s H E).nox (defScope st) (2 * n + 2) P G D (fns P n) := by
      exact ⟨ctxE_of X ih rfl rfl rfl rfl rfl rfl S.nd rfl hr, ⟨fun x hx => ⟨hx, .inl rfl⟩⟩, PassesOwn.never, S.kind, fun q e => (by rw [X.gq] at e; cases e), ⟨rfl, rfl, rfl⟩⟩
    refine ⟨_, sSs f.body (defBody st) _ _ _ C hc, ?_⟩
    have hl := run_len h3
    unfold Fn.run at h3
    rw [if_pos hl, if_neg hk3] at h3
    have sa : SA K H0 M (L2.start f.N vs) (args.map some ++ List.replicate (f.N.length - args.length) none) (pinsOf 0 f.lent vs) H := by
      refine ⟨vs.zip args, M, ?_, ?_, fun v i π hm => ?_⟩
      · unfold L2.start
        rw [h1]
        exact Lv.start vs args _ h1
      · rw [tents_pins, List.append_nil]
        exact h2
      · obtain ⟨rfl, _, _, h5, h6⟩ := pins_mem hm
        rw [Nat.sub_zero] at h5
        have hi := (List.getElem?_eq_some_iff.mp h5).1
        refine ⟨v, ?_, .nil, ?_⟩
        · unfold L2.start
          rw [List.getElem?_append_left (by simpa using hi), List.getElem?_map, h5]
          rfl
        · have hi2 : i < (args.map some).length := by rw [List.length_map, ← h1]; exact hi
          have hi3 : i < args.length := by rw [← h1]; exact hi
          rw [List.getD_eq_getElem?_getD, List.getElem?_append_left hi2, List.getElem?_map, List.getElem?_eq_getElem hi3]
          rfl
    have nb : noB (lentIx 0 f.lent) (pinsOf 0 f.lent vs) := fun v i π hm => (pins_mem hm).2.1
    have ro : Roots (pinsOf 0 f.lent vs) := fun v i π hm => (pins_mem hm).1
    have fin : ∀ {σ' : L2.St} {e : PEnv} {H' : Hp} {v : V} {sl : Sl} {bk : List Sl}, SA K H0 M σ' e (pinsOf 0 f.lent vs ++ [(v, .t sl)]) H' → backs f.lent e = some bk → ∃ M', Hyp K H0 M M' H' ((v, sl) :: (selL f.lent vs).zip bk) := fun {σ' e H' v sl bk} sa' hb => by
      obtain ⟨E', M', sx⟩ := sa'
      refine ⟨M', ?_⟩
      have sub := backs_sub (vs := vs) sx.lv hb fun j w a b => by
        obtain ⟨u0, u1, u2, _⟩ := sx.bor w (0 + j) [] (List.mem_append_left _ (mem_pins b a))
        cases u2
        simpa using u1
      have q := sx.hyp
      rw [tents_append, tents_pins, List.nil_append] at q
      exact (q.sublist (List.Sublist.append_right sub _)).perm List.perm_append_comm
    cases er2 : exs (fns P n) f.body (args.map some ++ List.replicate (f.N.length - args.length) none) with
    | none => rw [er2] at h3; cases h3
    | some fl =>
      rw [er2] at h3
      refine ⟨H0, M, _, _, fl, er2, ⟨nb, ro⟩, sa, ?_⟩
      cases fl with
      | next env =>
        obtain ⟨bk, hb, rfl⟩ := om h3
        intro σ' H' sa'
        obtain ⟨E', M', sx⟩ := sa'
        exact h4 .non H' (fin (sx.push .non) hb)
      | ret sl env =>
        obtain ⟨bk, hb, rfl⟩ := om h3
        exact fun v σ' H' sa' => h4 v H' (fin sa' hb)
      | brk env => cases h3

/-- the rule for a def that gives a function back -/
theorem fn_ofG {k : Nat} {f : Addr} {name qual : Str} {params : Arguments} {body : List Stmt} {scope : Scope} {dV kV doc pm cdv ct oc : Value} {an od : Option Addr}
    {osl : Array (Option Value)} {N ps : List Str} {sp : Sp} (lk : K.lookup f = some ⟨oc, od, .func (PySem.W.fnOf name qual params body scope dV kV doc pm an cdv ct), osl⟩) (hcd : PySem.W.codeIn K cdv qual = true) (S : FnScope N ps scope)
    (len : ∀ vs H Q E, sp vs H Q E → vs.length = ps.length)
    (hbody : ∀ (A : Around) (outer : List Env) (s : Shared) (H : Hp) (vs : List V) (Q : VK) (E : XK), Room k (A.deeper (envOfC qual scope s.heap.objs.size f cdv)) → sp vs H Q E → ∀ s1, Inv (cxOf CX0 Pr w K mg base N qual scope f cdv A outer s H E).nox [] (L2.start N vs) H s1 →
      wpAny (model Pr w) (A.deeper (envOfC qual scope s.heap.objs.size f cdv)) (execs body (envOfC qual scope s.heap.objs.size f cdv)) (SPB (cxOf CX0 Pr w K mg base N qual scope f cdv A outer s H E).nox [] (fun _ H' => Q .non H') Q
        (fun v σ' H' => ∃ caps : List (Str × V), (∀ p ∈ caps, (∃ i : Nat, N[i]? = some p.1 ∧ σ'[i]? = some (some p.2)) ∧ scope.names.lookup p.1 = some .cell) ∧
          ∀ H2, Same H' H2 → (∀ p ∈ caps, ∀ c, (envOfC qual scope s.heap.objs.size f cdv).cells.lookup p.1 = some c → H2 c = some (CellO c p.2)) → Q v H2)) (fun _ _ => False) s1) :
    FnOk Pr w K mg base CX0 (k + 1) f (PySem.W.fnOf name qual params body scope dV kV doc pm an cdv ct) ps sp := by
  classical
  refine ⟨len, fun A outer s H args us vs Q E hr e0 hb r hsp => ?_⟩
  have hl := len _ _ _ _ hsp
  have KX : K.In s.heap := e0.mod.kin.keeps fun b o e => (e0.bs b o e).1
  have lim : s.heap.NoLimit := e0.mod.nolimit.keeps fun b o e => (e0.bs b o e).1
  have hkind : ∀ y ∈ ps.zip us, scope.names.lookup y.1 = some .local ∨ (scope.names.lookup y.1 = some .cell ∧ ((cellsFrom (s.heap.objs.size + 1) scope.names []).lookup y.1).isSome = true) := fun ⟨n, v⟩ hy => by
    rcases S.par n (List.of_mem_zip hy).1 with q | q
    · exact .inl q
    · exact .inr ⟨q, PySem.W.cellsFrom_some _ _ _ (.inl q)⟩
  refine codeAny_call_function hr.depth (KX _ _ lk) rfl S.co S.gen rfl (PySem.W.codeRec_of KX hcd) (hb _ _ _ _ ?_)
  refine wpAny_newFunctionEnv_cells S.kind hkind fun env he s1 x => ?_
  subst he
  refine ⟨lim.keeps x.toInCall.keep, codeAny_func ?_⟩
  have I : Inv (cxOf CX0 Pr w K mg base N qual scope f cdv A outer s H E) [] (L2.start N vs) H s1 := inv_start S hr.hd e0 hl r x
  refine wpAny_mono (hbody A outer s H vs Q E (hr.deeper _) hsp s1 (I.wish _)) (fun fl s' hs => ?_) fun e s' hs => hs.elim
  have fin : ∀ {σ' : L2.St} {H' : Hp} {v : V} {u : Value}, Inv (cxOf CX0 Pr w K mg base N qual scope f cdv A outer s H E) [] σ' H' s' → RelV v u → Q v H' → CE outer Pr w H s Q u s' :=
    fun {σ' H' v u} J rv q => ⟨v, H', J.os, J.bare, J.base, J.hok, rv, q⟩
  cases fl with
  | next =>
    obtain ⟨σ', H', J, q⟩ := hs
    exact fin (v := V.non) (u := Value.none) J.unwish rfl q
  | brk => exact False.elim hs
  | cont => exact False.elim hs
  | ret u =>
    obtain ⟨v, σ', H', J, rv, q⟩ := hs
    rcases q with q | ⟨caps, hcap, q⟩
    · exact fin J.unwish rv q
    · have J := J.unwish
      have lkc : ∀ {y c}, (envOfC qual scope s.heap.objs.size f cdv).cells.lookup y = some c → H' c = none := fun {y c} e => J.freeC y c e
      have hinj : ∀ x y c, (envOfC qual scope s.heap.objs.size f cdv).cells.lookup x = some c → (envOfC qual scope s.heap.objs.size f cdv).cells.lookup y = some c → x = y := J.ok.inj
      generalize hH2 : (fun b => if z : ∃ p ∈ caps, (envOfC qual scope s.heap.objs.size f cdv).cells.lookup p.1 = some b then some (CellO b (Classical.choose z).2) else H' b : Hp) = H2
      have h2c : ∀ p ∈ caps, ∀ c, (envOfC qual scope s.heap.objs.size f cdv).cells.lookup p.1 = some c → H2 c = some (CellO c p.2) := fun p hp c e => by
        have z : ∃ p ∈ caps, (envOfC qual scope s.heap.objs.size f cdv).cells.lookup p.1 = some c := ⟨p, hp, e⟩
        have e1 : H2 c = some (CellO c (Classical.choose z).2) := by rw [← hH2]; exact dif_pos z
        obtain ⟨m1, m2⟩ := Classical.choose_spec z
        have nm : (Classical.choose z).1 = p.1 := hinj _ _ c m2 e
        obtain ⟨⟨i, i1, i2⟩, _⟩ := hcap p hp
        obtain ⟨⟨j, j1, j2⟩, _⟩ := hcap _ m1
        have ij : i = j := by
          have hi := (List.getElem?_eq_some_iff.mp i1).1
          exact (List.getElem?_inj hi S.nd).mp (by rw [i1, j1, nm])
        subst ij
        rw [i2] at j2
        rw [e1]
        have e3 : p.2 = (Classical.choose z).2 := by simpa using j2
        rw [← e3]
      have h2o : ∀ b, (¬ ∃ p ∈ caps, (envOfC qual scope s.heap.objs.size f cdv).cells.lookup p.1 = some b) → H2 b = H' b := fun b z => by rw [← hH2]; exact dif_neg z
      have sm : Same H' H2 := fun b o e => by
        rw [h2o b fun ⟨p, _, z⟩ => by rw [lkc z] at e; cases e]; exact e
      refine ⟨v, H2, J.os, J.bare, ⟨J.base.keep, J.base.slot, fun b o e n hx => ?_, J.base.there, fun b xs e => sm _ _ (J.base.tups b xs e), fun b o u e => sm _ _ (J.base.frzs b o u e), fun b ps e => ?_⟩, fun b o e => ?_, rv, q H2 sm h2c⟩
      · rw [h2o b fun ⟨p, _, z⟩ => by
          have : s.heap.objs.size ≤ b := J.ok.cab p.1 b rfl z
          exact Nat.lt_irrefl _ (Nat.lt_of_lt_of_le (Heap.lt_size e) this)]
        exact J.base.free b o e n hx
      · obtain ⟨more, z⟩ := J.base.tbls b ps e
        exact ⟨more, sm _ _ z⟩
      · by_cases z : ∃ p ∈ caps, (envOfC qual scope s.heap.objs.size f cdv).cells.lookup p.1 = some b
        · obtain ⟨p, hp, hz⟩ := z
          rw [h2c p hp b hz] at e
          cases e
          obtain ⟨⟨i, i1, i2⟩, kd⟩ := hcap p hp
          obtain ⟨m, hn, hl⟩ := J.loc
          obtain ⟨u', ru, lk⟩ := hl i p.1 p.2 i1 i2 (.inr (.inl kd))
          have ic : s'.heap.IsCell b (some u') := by
            rcases lk with ⟨z1, _⟩ | ⟨_, c, z1, z2⟩
            · have z1' : scope.names.lookup p.1 = some .local := z1
              rw [kd] at z1'; cases z1'
            · have z1' : (envOfC qual scope s.heap.objs.size f cdv).cells.lookup p.1 = some c := z1
              rw [hz] at z1'; cases z1'
              exact z2
          exact ⟨⟨u', ru, ic⟩, let ⟨o, ho, _⟩ := ic; ⟨o, ho⟩, fun h1 h2 ⟨w1, w2, o, w3, w4⟩ st => ⟨w1, w2, o, st _ w3, w4⟩⟩
        · rw [h2o b z] at e
          exact (J.hok b o e).stay (fun _ _ _ q => q) (fun a q => sm _ _ q) (fun a xs q => sm _ _ q)
theorem fn_bodyG (X : Txts K mg ad P G D cs) {n : Nat} (ih : LvAll Pr w K mg base ad P D n) (TB : ∀ p ∈ cs, TabB base mg p.1 p.2) {g : Nat} {f : Fn} (hg : P[g]? = some f) (hk : f.kd = 1) :
    ∃ fd, FnOk Pr w K mg base CX0 (2 * n + 2 + 1 + 1) (ad g) fd f.ps (spF K f.lent (fns P (n + 1) g)) ∧ PySem.W.keepIn K (.ref (ad g)) = true ∧ Binds K fd f.ps [] := by
  obtain ⟨st, fd, oc, od, osl, kV, doc, pm, an, c, Pa, ct, rfl, lk, hcd, kp, S, hc, hend, _, hbind, hl0, hcs⟩ := X.gv g f hg hk
  have er : ∀ args, fns P (n + 1) g args = f.run (fns P n) args := fun args => by simp only [fns, hg]
  refine ⟨_, fn_ofG lk hcd S (fun vs H Q E h => ?_) (fun A outer s H vs Q E hr h s1 I => ?_), kp, .all hbind⟩
  · obtain ⟨H0, M, args, r, h1, h2, h3, _⟩ := h
    rw [er] at h3
    rw [h1]
    exact run_len h3
  · obtain ⟨H0, M, args, r, h1, h2, h3, h4⟩ := h
    rw [er] at h3
    have hl := run_len h3
    unfold Fn.run at h3
    rw [if_pos hl, if_neg (by omega)] at h3
    have C0 : CtxE (cxOf CX0 Pr w K mg base f.N f.qn (defScope st) (ad g) (.ref c) A outer s H E).nox (defScope st) (2 * n + 2) P G D (fns P n) := ctxE_of X ih rfl rfl rfl rfl rfl rfl S.nd rfl hr
    have C : CtxS (cxOf CX0 Pr w K mg base f.N f.qn (defScope st) (ad g) (.ref c) A outer s H E).nox (defScope st) (2 * n + 2) P G { D with gq := some (f.qn ++ ".<locals>.") } (fns P n) := by
      refine ⟨⟨C0.sc, C0.nd, C0.calm, C0.room, C0.fn, C0.mt, C0.nw, C0.at', C0.isa, C0.bl, C0.gl, C0.fv, C0.xr, C0.xi, C0.fx, C0.mx, C0.md⟩, ⟨fun x hx => ⟨hx, .inl rfl⟩⟩, PassesOwn.never, S.kind, fun q e => ?_, ⟨rfl, rfl, rfl⟩⟩
      cases e
      refine ⟨⟨c, Pa, TB _ hcs, rfl, ?_⟩, rfl⟩
      show Pa ∈ Reg.ad K
      rw [X.ads]
      exact List.mem_map.mpr ⟨_, hcs, rfl⟩
    have pb := sB f.body (defBody st) _ _ C hc hend
    have sa : SA K H0 M (L2.start f.N vs) (args.map some ++ List.replicate (f.N.length - args.length) none) [] H := by
      refine ⟨vs.zip args, M, ?_, ?_, fun v i π hm => by cases hm⟩
      · unfold L2.start
        rw [h1]
        exact Lv.start vs args _ h1
      · show Hyp K H0 M M H (vs.zip args ++ [])
        rw [List.append_nil]
        exact h2
    rw [hl0] at h3 h4
    cases er2 : exs (fns P n) f.body (args.map some ++ List.replicate (f.N.length - args.length) none) with
    | none => rw [er2] at h3; cases h3
    | some fl =>
      rw [er2] at h3
      refine pb.run [] s1 _ H H0 M _ fl _ _ _ I er2 sa ?_
      cases fl with
      | next env =>
        obtain ⟨bk, hb, rfl⟩ := om h3
        cases hb
        intro σ' H' sa'
        obtain ⟨E', M', sx⟩ := sa'
        refine h4 .non H' ⟨M', ?_⟩
        have q := (sx.hyp.sublist (List.nil_sublist _)).push (v := V.non) (p := PV.non) .non
        simp only [List.nil_append] at q
        show Hyp K H0 M M' H' ((V.non, Sl.sh .non) :: (selL [] vs).zip [])
        simp only [selL, List.zip_nil_left]
        exact q
      | brk env => cases h3
      | ret sl env =>
        obtain ⟨bk, hb, rfl⟩ := om h3
        cases hb
        refine ⟨fun v σ' H' sa' => ?_, fun g' ps f' σ' H' e cx => ?_⟩
        · obtain ⟨E', M', sx⟩ := sa'
          refine h4 v H' ⟨M', ?_⟩
          have q := sx.hyp.sublist (List.sublist_append_right E' _)
          simp only [selL, List.zip_nil_left]
          exact q
        · subst e
          obtain ⟨c', js, vs', M1, hi, sf, m1, m2, lv, hv, reps, hy⟩ := cx
          have fl : (RegS.nf g').fr.length = js.length := by
            have := congrArg List.length sf.at'
            simpa using this.symm
          refine ⟨(RegS.nf g').fr.zip vs', fun p hp => ?_, fun H2 sm2 hcell => ?_⟩
          · obtain ⟨m, hm⟩ := List.mem_iff_getElem?.mp hp
            rw [List.getElem?_zip_eq_some] at hm
            obtain ⟨q1, q2⟩ := hm
            refine ⟨?_, sf.cell _ (List.mem_of_getElem? q1)⟩
            have : (js.map fun j => f.N[j]?)[m]? = some (some p.1) := by
              show (js.map fun j => (cxOf CX0 Pr w K mg base f.N f.qn (defScope st) (ad g) (.ref c) A outer s H E).nox.N[j]?)[m]? = _
              rw [sf.at', List.getElem?_map, q1]; rfl
            rw [List.getElem?_map, Option.map_eq_some_iff] at this
            obtain ⟨j, z1, z2⟩ := this
            obtain ⟨v, z3, z4⟩ := hv m j z1
            rw [q2] at z3; cases z3
            exact ⟨j, z2, z4⟩
          · -- the cells are told from now on
            generalize hec : (envOfC f.qn (defScope st) s.heap.objs.size (ad g) (.ref c)).cells = ec at hcell
            have m1' : M1 f' = some (CloO f' (RegS.nf g') (cloFrom ec (RegS.nf g').scope.names []) c') := by rw [← hec]; exact m1
            have hasC : ∀ y ∈ (RegS.nf g').fr, ∃ a, ec.lookup y = some a := fun y hy => by
              obtain ⟨a, ha⟩ := I.ok.has y (.inl (sf.cell y hy))
              exact ⟨a, by rw [← hec]; exact ha⟩
            have hfree : ∀ y ∈ (RegS.nf g').scope.names, y.2 = .free → ∃ a, ec.lookup y.1 = some a := fun y hy hk => hasC _ (sf.sub y hy hk)
            have inj : ∀ x y a, ec.lookup x = some a → ec.lookup y = some a → x = y := by rw [← hec]; exact I.ok.inj
            have cellOf : ∀ y ∈ (RegS.nf g').fr, ∀ a, ec.lookup y = some a → ∃ v, H2 a = some (CellO a v) := fun y hy a ha => by
              obtain ⟨m, hm⟩ := List.mem_iff_getElem?.mp hy
              obtain ⟨v, hv'⟩ : ∃ v, vs'[m]? = some v := ⟨_, List.getElem?_eq_getElem (by rw [lv, ← fl]; exact (List.getElem?_eq_some_iff.mp hm).1)⟩
              exact ⟨v, hcell (y, v) (List.mem_of_getElem? (i := m) (List.getElem?_zip_eq_some.mpr ⟨hm, hv'⟩)) a ha⟩
            generalize hM2 : (fun b => if ∃ y ∈ (RegS.nf g').fr, ec.lookup y = some b then H2 b else M1 b : Hp) = M2
            have m2i : ∀ b, (∃ y ∈ (RegS.nf g').fr, ec.lookup y = some b) → M2 b = H2 b := fun b z => by rw [← hM2]; exact if_pos z
            have m2o : ∀ b, (¬ ∃ y ∈ (RegS.nf g').fr, ec.lookup y = some b) → M2 b = M1 b := fun b z => by rw [← hM2]; exact if_neg z
            have smM : Same M1 M2 := fun b o e => by
              by_cases z : ∃ y ∈ (RegS.nf g').fr, ec.lookup y = some b
              · rw [m2i b z]; exact sm2 _ _ (hy.sub _ _ e)
              · rw [m2o b z]; exact e
            refine h4 (.ref f') H2 ⟨M2, ?_⟩
            have rp : Rep K M2 (.ref f') (.fn g' ps) := by
              refine .fn (c := c') (cl := cloFrom ec (RegS.nf g').scope.names []) (vs := vs') hi (smM _ _ m1') (smM _ _ m2) ⟨fun y a e => ?_, fun x y a e1 e2 => ?_, by rw [lv, fl], fun m y hm => ?_⟩ (Reps.mono smM reps)
              · rcases cloFrom_mem (PySem.mem_of_lookup e) with hm | ⟨h1, _⟩
                · cases hm
                · exact sf.sub _ h1 rfl
              · exact inj x y a (NdefX.clo_cm hfree e1) (NdefX.clo_cm hfree e2)
              · have hy' := List.mem_of_getElem? hm
                obtain ⟨a, ha⟩ := hasC y hy'
                obtain ⟨v, hv'⟩ : ∃ v, vs'[m]? = some v := ⟨_, List.getElem?_eq_getElem (by rw [lv, ← fl]; exact (List.getElem?_eq_some_iff.mp hm).1)⟩
                refine ⟨a, v, NdefX.clo_has hfree (sf.sup y hy') ha, hv', ?_⟩
                rw [m2i a ⟨y, hy', ha⟩]
                exact hcell (y, v) (List.mem_of_getElem? (i := m) (List.getElem?_zip_eq_some.mpr ⟨hm, hv'⟩)) a ha
            refine ⟨fun b o e => ?_, hy.low.trans smM, fun b o e => ?_, fun b o e => sm2 _ _ (hy.old b o e), hy.tab.ext sm2, hy.nt0, fun b o e => ?_, [], TrE.cons (A := []) (.sh rp) ?_, .nil⟩
            · by_cases z : ∃ y ∈ (RegS.nf g').fr, ec.lookup y = some b
              · rw [m2i b z] at e; exact e
              · rw [m2o b z] at e; exact sm2 _ _ (hy.sub _ _ e)
            · by_cases z : ∃ y ∈ (RegS.nf g').fr, ec.lookup y = some b
              · obtain ⟨y, hy', ha⟩ := z
                obtain ⟨v, q⟩ := cellOf y hy' b ha
                rw [m2i b ⟨y, hy', ha⟩, q] at e; cases e
                exact .inr (.inr rfl)
              · rw [m2o b z] at e; exact hy.new _ _ e
            · by_cases z : ∃ y ∈ (RegS.nf g').fr, ec.lookup y = some b
              · obtain ⟨y, hy', ha⟩ := z
                obtain ⟨v, q⟩ := cellOf y hy' b ha
                rw [m2i b ⟨y, hy', ha⟩, q] at e; cases e
                rfl
              · rw [m2o b z] at e; exact hy.ntM _ _ e
            · show TrE K H0 M2 H2 ((selL [] vs).zip []) []
              simp only [selL]
              exact .nil

theorem Lv.startN {vs ws : List V} {args : List Sl} {n : Nat} (h : (vs ++ ws).length = args.length) : Lv (vs.map some ++ (ws.map some ++ List.replicate n none)) (args.map some ++ List.replicate n none) ((vs ++ ws).zip args) := by
  have := Lv.start (vs ++ ws) args n h
  rwa [List.map_append, List.append_assoc] at this
/-- the functions that defs give back -/
theorem fv_body (X : Txts K mg ad P G D cs) {n : Nat} (ih : LvAll Pr w K mg base ad P D n) (g : Nat) : FvOk Pr w K mg base (2 * n + 2 + 1 + 1) g (fns P (n + 1) g) := by
  intro A outer s H us vs ws Q f c cl hi hsub hr e0 hf hc C r hsp
  obtain ⟨fn, hg, hk⟩ := X.inn g hi
  obtain ⟨ps, hps, S, hbind, hlent, _, hbd⟩ := X.inr g fn hg hk
  have er : ∀ args, fns P (n + 1) g args = fn.run (fns P n) args := fun args => by simp only [fns, hg]
  have hwl : ws.length = (RegS.nf g).fr.length := by have := C.len; rwa [List.length_map] at this
  have lenOf : ∀ {vs : List V} {H : Hp} {Q : VK} {E : XK} {ws : List V}, ws.length = (RegS.nf g).fr.length → spF K [] (fns P (n + 1) g) (vs ++ ws) H Q E → vs.length = ps.length := fun {vs H Q E ws} hw h => by
    obtain ⟨H0, M, args, r, h1, h2, h3, _⟩ := h
    rw [er] at h3
    have := run_len h3
    rw [← h1, hps, List.length_append, List.length_append] at this
    omega
  -- the body's reading at its entry
  have entry : ∀ {vs ws : List V} {H : Hp} {Q : VK} {E : XK}, ws.length = (RegS.nf g).fr.length → spF K [] (fns P (n + 1) g) (vs ++ ws) H Q E → ∃ H0 M env fl, exs (fns P n) fn.body env = some fl ∧ SA K H0 M (NdefX.startF fn.N vs (ws.map some)) env [] H ∧
      FlOk K H0 M [] { nx := fun _ H' => Q .non H', rt := Q } fl := fun {vs ws H Q E} hw h => by
    have hvl := lenOf hw h
    obtain ⟨H0, M, args, r, h1, h2, h3, h4⟩ := h
    rw [er] at h3
    have hl := run_len h3
    unfold Fn.run at h3
    rw [if_pos hl, if_neg (by omega)] at h3
    have sa : SA K H0 M (NdefX.startF fn.N vs (ws.map some)) (args.map some ++ List.replicate (fn.N.length - args.length) none) [] H := by
      refine ⟨(vs ++ ws).zip args, M, ?_, ?_, fun v i π hm => by cases hm⟩
      · unfold NdefX.startF
        have : fn.N.length - vs.length - (ws.map some).length = fn.N.length - args.length := by rw [← h1, List.length_append, List.length_map]; omega
        rw [this]
        exact Lv.startN h1
      · show Hyp K H0 M M H ((vs ++ ws).zip args ++ [])
        rw [List.append_nil]
        exact h2
    rw [hlent] at h3
    cases er2 : exs (fns P n) fn.body (args.map some ++ List.replicate (fn.N.length - args.length) none) with
    | none => rw [er2] at h3; cases h3
    | some fl =>
      rw [er2] at h3
      refine ⟨H0, M, _, fl, er2, sa, ?_⟩
      cases fl with
      | next env =>
        obtain ⟨bk, hb, rfl⟩ := om h3
        cases hb
        intro σ' H' sa'
        obtain ⟨E', M', sx⟩ := sa'
        refine h4 .non H' ⟨M', ?_⟩
        have q := (sx.hyp.sublist (List.nil_sublist _)).push (v := V.non) (p := PV.non) .non
        simp only [List.nil_append] at q
        show Hyp K H0 M M' H' ((V.non, Sl.sh .non) :: (selL [] vs).zip [])
        simp only [selL, List.zip_nil_left]
        exact q
      | brk env => cases h3
      | ret sl env =>
        obtain ⟨bk, hb, rfl⟩ := om h3
        cases hb
        intro v σ' H' sa'
        obtain ⟨E', M', sx⟩ := sa'
        refine h4 v H' ⟨M', ?_⟩
        have q := sx.hyp.sublist (List.sublist_append_right E' _)
        simp only [selL, List.zip_nil_left]
        exact q
  generalize hF : RegS.nf g = F at hf hc C S hbind hbd hps hwl lenOf entry hsub
  obtain ⟨name, qual, params, bd, scope, fr⟩ := F
  rcases hbd with ⟨b, rfl, hchk⟩ | ⟨e, a, rfl, hfb, hchk⟩
  · have lim : s.heap.NoLimit := e0.mod.nolimit.keeps fun b o e => (e0.bs b o e).1
    obtain ⟨od, sl, doc, pm, ctv, ho⟩ := clo_at e0.hok hf
    have hvl := lenOf hwl hsp
    refine codeAny_call_function hr.depth ho rfl S.co S.gen rfl (NdefX.codeO_at e0.hok hc) ?_
    rw [hbind cl c doc pm ctv us (by rw [← r.length]; exact hvl)]
    refine wpAny_pure (newEnvD S.kind (fun ⟨n, _⟩ hy => S.par n (List.of_mem_zip hy).1) fun s1 x => ⟨lim.keeps x.toInCall.keep, ?_⟩)
    show codeAny _ _ (.func b (envD ⟨name, qual, params, b, scope, cl, c⟩ f s.heap.objs.size)) _ _
    refine codeAny_func ?_
    have I : Inv (dcx CX0 Pr w K mg base fn.N ⟨name, qual, params, b, scope, cl, c⟩ f A outer s H E0) [] (NdefX.startF fn.N vs (ws.map some)) H s1 := inv_startD S hr.hd e0 hvl r C hsub x
    obtain ⟨H0, M, env, fl, q1, q2, q3⟩ := entry hwl hsp
    have CS : CtxS (dcx CX0 Pr w K mg base fn.N ⟨name, qual, params, b, scope, cl, c⟩ f A outer s H E0).nox scope (2 * n + 2) P G D (fns P n) := by
      refine ⟨ctxE_of X ih rfl rfl rfl rfl rfl rfl S.nd rfl (hr.deeper _), ⟨fun x hx => ⟨hx, ?_⟩⟩, PassesOwn.never, S.kind, fun q e => (by rw [X.gq] at e; cases e), ⟨rfl, rfl, rfl⟩⟩
      rcases hx with hx | hx
      · exact .inr hx
      · exact .inl (decide_eq_true hx)
    refine wpAny_mono (((sSs fn.body b _ _ _ CS hchk).nox).run [] s1 _ H _ I ⟨H0, M, env, [], fl, q1, ⟨noB.nil, Roots.nil⟩, q2, q3⟩) (fun fl s' hs => ?_) fun e s' hs => hs
    have fin : ∀ {σ' : L2.St} {H' : Hp} {v : V} {u : Value}, Inv (dcx CX0 Pr w K mg base fn.N ⟨name, qual, params, b, scope, cl, c⟩ f A outer s H E0) [] σ' H' s' → L2.RelV v u → Q v H' → CE outer Pr w H s Q u s' :=
      fun {σ' H' v u} J rv q => ⟨v, H', J.os, J.bare, J.base, J.hok, rv, q⟩
    cases fl with
    | ret u =>
      obtain ⟨v, σ', H', J, rv, q⟩ := hs
      exact fin J rv q
    | next =>
      obtain ⟨σ', H', J, q⟩ := hs
      exact fin (v := V.non) (u := Value.none) J rfl q
    | brk =>
      obtain ⟨_, _, _, q⟩ := hs
      exact False.elim q
    | cont =>
      obtain ⟨_, _, _, q⟩ := hs
      exact False.elim q
  · -- a lambda
    have lim : s.heap.NoLimit := e0.mod.nolimit.keeps fun b o e => (e0.bs b o e).1
    obtain ⟨od, sl, doc, pm, ctv, ho⟩ := clo_at e0.hok hf
    have hvl := lenOf hwl hsp
    refine PySem.W.kla_callFunE hr.depth ho rfl S.co S.gen rfl (NdefX.codeO_at e0.hok hc) ?_
    rw [hbind cl c doc pm ctv us (by rw [← r.length]; exact hvl)]
    refine wpAny_pure (newEnvD S.kind (fun ⟨n, _⟩ hy => S.par n (List.of_mem_zip hy).1) fun s1 x => ⟨lim.keeps x.toInCall.keep, ?_⟩)
    show codeAny _ _ (.expr e (envD ⟨name, qual, params, [], scope, cl, c⟩ f s.heap.objs.size)) _ _
    have I : Inv (dcx CX0 Pr w K mg base fn.N ⟨name, qual, params, [], scope, cl, c⟩ f A outer s H E0) [] (NdefX.startF fn.N vs (ws.map some)) H s1 := inv_startD S hr.hd e0 hvl r C hsub x
    obtain ⟨H0, M, env, fl, q1, q2, q3⟩ := entry hwl hsp
    have CE' : CtxE (dcx CX0 Pr w K mg base fn.N ⟨name, qual, params, [], scope, cl, c⟩ f A outer s H E0).nox scope (2 * n + 2) P G D (fns P n) := ctxE_of X ih rfl rfl rfl rfl rfl rfl S.nd rfl (hr.deeper _)
    have pe := (sE a e _ _ CE' hchk).nox
    rw [hfb] at q1
    simp only [exs, ex] at q1
    obtain ⟨r1, z1, z2⟩ := ob q1
    obtain ⟨r2, z3, z4⟩ := ob z1
    obtain ⟨q, z5, rfl⟩ := om z4
    cases z2
    refine PySem.W.kla_codeExpr (wpAny_mono (pe.run [] _ _ H Q I ⟨H0, M, env, [], r2, z3, q2, fun _ => Roots.nil, fun v H' sa' => q3 v (NdefX.startF fn.N vs (ws.map some)) H' ?_⟩) (fun u s' ⟨v, H', J, rv, qq⟩ => ⟨v, H', J.os, J.bare, J.base, J.hok, rv, qq⟩) fun e s' h => h)
    exact SA.fixR sa' z5 noB.nil
theorem fns_ok (X : Txts K mg ad P G D cs) (TB : ∀ p ∈ cs, TabB base mg p.1 p.2) : ∀ n : Nat, LvAll Pr w K mg base ad P D n
  | 0 => by
    refine ⟨fun g f hg hk hk3 => ?_, fun g f hg hk => ?_, fun g A outer s H us vs ws Q f c cl hi hsub hr e0 hf hc C r hsp => ?_, fun g f d hg hk hd => ?_⟩
    · have none0 : ∀ {fd : FuncData}, FnOk Pr w K mg base CX0 (2 * 0 + 2) (ad g) fd f.ps (spF K f.lent (fns P 0 g)) := by
        refine ⟨fun vs H Q E h => ?_, fun A outer s H args us vs Q E _ _ _ _ h => ?_⟩
        · obtain ⟨_, _, _, r, _, _, h3, _⟩ := h
          cases h3
        · obtain ⟨_, _, _, r, _, _, h3, _⟩ := h
          cases h3
      rcases X.kds f (List.mem_of_getElem? hg) with z | z | z | z
      · obtain ⟨st, fd, F, S, hc, hm, hb, hl, hdf⟩ := X.fn g f hg z
        exact ⟨fd, none0, F.kp, hb.1⟩
      · obtain ⟨st, fd, oc, od, osl, kV, doc, pm, an, c, Pa, ct, rfl, lk, hcd, kp, S, hc, hend, _, hbind, hl0, hcs⟩ := X.gv g f hg z
        exact ⟨_, none0, kp, .all hbind⟩
      · exact absurd z hk
      · exact absurd z hk3
    · obtain ⟨st, fd, F, S, hc, _, hb, _⟩ := X.xd g f hg hk
      refine ⟨fd, ⟨fun vs H Q E h => ?_, fun A outer s H args us vs Q E _ _ _ _ h => ?_⟩, F.kp, hb⟩
      · obtain ⟨_, _, _, _, _, _, _, _, h3, _⟩ := h
        cases h3
      · obtain ⟨_, _, _, _, _, _, _, _, h3, _⟩ := h
        cases h3
    · obtain ⟨_, _, _, r, _, _, h3, _⟩ := hsp
      cases h3
    · obtain ⟨st, fd, F, S, hc, hm, hb, hl, hdf⟩ := X.fn g f hg hk
      obtain ⟨ds, q1, q2⟩ := hdf d hd
      refine ⟨fd, ds, ⟨fun vs H Q E h => ?_, fun A outer s H args us vs Q E _ _ _ _ h => ?_⟩, q1, q2⟩
      · obtain ⟨_, _, _, r, _, _, h3, _⟩ := h
        cases h3
      · obtain ⟨_, _, _, r, _, _, h3, _⟩ := h
        cases h3
  | n + 1 => by
    have ih := fns_ok X TB n
    refine ⟨fun g f hg hk hk3 => ?_, fun g f hg hk => fn_bodyX X ih hg hk, fun g => fv_body X ih g, fun g f d hg hk hd => ?_⟩
    rotate_left
    · obtain ⟨st, fd, F, S, hc, hm, hb, hl, hdf⟩ := X.fn g f hg hk
      obtain ⟨ds, q1, q2⟩ := hdf d hd
      exact ⟨fd, ds, fn_body X ih hg F S hc hl (by omega), q1, q2⟩
    rcases X.kds f (List.mem_of_getElem? hg) with z | z | z | z
    · obtain ⟨st, fd, F, S, hc, hm, hb, hl, hdf⟩ := X.fn g f hg z
      exact ⟨fd, fn_body X ih hg F S hc hl (by omega), F.kp, hb.1⟩
    · exact fn_bodyG X ih TB hg z
    · exact absurd z hk
    · exact absurd z hk3
end
/-- the law's own promise -/
noncomputable def spLaw (K : PySem.W.Frag) (cs : List (Addr × Addr)) (F : List Sl → Option (Sl × List Sl)) : Sp := fun vs H Q _ => ∃ (a : Addr) (ns : List Int), vs = [.ref a] ∧ (∀ p ∈ cs, H p.2 = some (.tbl #[])) ∧ SqL K H a (ns.map V.int) ∧ F [.sh (.lst (ns.map PV.int))] = some (.sh (.bl true), []) ∧ ∀ H', Q (.bl true) H'
theorem sp_law {K : PySem.W.Frag} {cs : List (Addr × Addr)} {F : List Sl → Option (Sl × List Sl)} {ls : List Bool} {vs : List V} {H : Hp} {Q : VK} {E : XK} (ha : Reg.ad K = cs.map (·.2)) (h : spLaw K cs F vs H Q E) : spF K ls F vs H Q E := by
  obtain ⟨a, ns, rfl, hT, h1, h2, h3⟩ := h
  generalize hM : (fun b => (H b).filter ntO : Hp) = M
  have m1 : ∀ b o, M b = some o → H b = some o ∧ ntO o = true := fun b o e => by rw [← hM] at e; exact Option.filter_eq_some_iff.mp e
  have m2 : ∀ b o, H b = some o → ntO o = true → M b = some o := fun b o e n => by rw [← hM]; exact Option.filter_eq_some_iff.mpr ⟨e, n⟩
  have sm : Same M H := fun b o e => (m1 b o e).1
  have hS : SqL K M a (ns.map V.int) := by
    rcases h1 with (h | ⟨o, h⟩) | h
    · exact .inl (.inl (m2 _ _ h rfl))
    · exact .inl (.inr ⟨o, m2 _ _ h rfl⟩)
    · exact .inr h
  have tab : TabsN (Reg.T K) H := fun p hp => by
    obtain ⟨Pa, h, rfl⟩ := List.mem_map.mp hp
    rw [ha] at h
    obtain ⟨q, hq, rfl⟩ := List.mem_map.mp h
    exact TabN.nil (hT q hq)
  refine ⟨M, M, _, _, rfl, ⟨sm, Same.refl M, fun b o e => .inl e, sm, tab, fun b o e => (m1 b o e).2, fun b o e => (m1 b o e).2, [], TrE.cons (A := []) (.sh (.lst hS (Reps.of_ints ns))) .nil, .nil⟩, h2, fun v H' ⟨M', hy⟩ => ?_⟩
  obtain ⟨A, t⟩ := hy.get (e := (v, .sh (.bl true))) List.mem_cons_self
  cases t with
  | sh r => cases r; exact h3 H'
theorem law_end {l : PySem.W.OpenLaw} {w : World} {K : PySem.W.Frag} {mg : Str → Option Value} {ad : Nat → Addr} {P : List Fn} {G : List (Str × PV)} {D : Tb} {cs : List (Addr × Addr)} {h : Heap} {m : Nat} (X : Txts K mg ad P G D cs) {g : Nat} {f : Fn} (hg : P[g]? = some f) {x : Str} (hp : f.ps = [x]) (ht : f.top = true) (hk : f.kd = 0) {fa : Addr} (hm : mg f.name = some (.ref fa)) (n : Nat)
    (hT : ∀ p ∈ cs, h.get? p.2 = some { cls := .none, data := .fields #[] }) (nT : ∀ p ∈ cs, K.lookup p.2 = none) (hC : ∀ p ∈ cs, PySem.W.CodeHd h p.1 p.2) (true' : ∀ ns : List Int, ns.length ≤ m → fns P (n + 1) g [.sh (.lst (ns.map PV.int))] = some (.sh (.bl true), [])) :
    LamX.LawAtS l w K CX0 (2 * n + 2 + 1 + 1) m x mg fa h := by
  obtain ⟨st, fd, F, S, hc, hm', hb, hl, _⟩ := X.fn g f hg hk
  have := hm' ht
  rw [hm] at this
  cases this
  refine ⟨fd, cs, spLaw K cs (fns P (n + 1) g), hT, nT, hC, fun s u => .of_eq ?_, fun H a ns hl _ hcs hS => ⟨a, ns, rfl, hcs, hS, true' ns hl, fun _ => rfl⟩, fun base _ _ TB => ?_⟩
  · rw [hb.2 (by rw [hp]; rfl) [u] (by rw [hp]; rfl), hp]
    rfl
  · have := (fn_body (Pr := l.prog) (w := w) (base := base) X (fns_ok X TB n) hg F S hc hl (by omega)).imp fun vs H Q E h => sp_law (ls := f.lent) X.ads h
    rw [hp] at this
    exact this
/-- the tables that the head tells -/
noncomputable def TabsOf (q : Program) (K : PySem.W.Frag) (h : Heap) : Prop := ∀ (x : Str) (c P : Addr), ((recsOf q).find? (fun e => e.name == x)).isSome = true → PySem.W.tabIn K x = some (c, P) → PySem.W.CodeHd h c P ∧ h.get? P = some { cls := .none, data := .fields #[] }
theorem walk_ofC {l : PySem.W.OpenLaw} {n k : Nat} {q : Program} {loose : List Str} {XP : (Str → Option Value) → Heap → Prop} {YP : World → Heap → Prop} {d : DefRec} {K : Params → PySem.W.Frag} {CX : World → CXT} {x : Str}
    (hn : l.most = some n) (hn2 : n ≤ sizeLine) (hdf : d.params.defaults = []) (hr : Room k callerA) (hY : ∀ (w : World) (h : Heap), YP w h → (K w.params).In h)
    (F : ∀ (w : World) (mg : Str → Option Value) (fa : Addr) (h : Heap), (K w.params).In h → h.Ns mainGlobals mg → mg d.name = some (.ref fa) → TabsOf q (K w.params) h → LamX.LawAtS l w (K w.params) (CX w) k n x mg fa h)
    (hCX : ∀ (w : World) (H : Hp) (s : Shared) (e : Value) (s' : Shared), CX w [] H s (fun _ _ _ => False) e s' → False) :
    PySem.W.WalkO q loose XP YP l.row.toRowW d [] (fun f vs => PySem.call f vs) := by
  refine Att.attach_callB hn hdf fun w s₀ s₁ mg mb fa o pm cd doc a vs ns G Y ho hd hcd hmg hobj hints hlen hbits hg => ?_
  have KX := hY w _ Y
  obtain ⟨fd, cs, sp, hT, nT, C, hb, hsp, hF⟩ := F w mg fa _ KX G.T.g hmg fun x c P hx ht => by
    obtain ⟨dr, hdr⟩ := Option.isSome_iff_exists.mp hx
    exact PySem.W.tab_of G.T KX hdr ht
  exact LamX.law_callTs KX G.T.g G.T.b G.T.builtins G.T.nolimit hg hT nT C G.T.bmain hobj hints (Nat.le_trans hlen hn2) hr hF hb (fun H hH hS => hsp H a ns hlen hbits hH hS) fun H e s' => hCX w H s₁ e s'
end Me
/-! Me15x: the __init__ of an own exception class: C0.__init__(self, "..") of the class above, then one field. -/
namespace Me
open PySem PySem.Spec PyProof.Rows L2
open NdefX (TabsN NTab TabN)
open LamX (CodeO TabB ExtN)
variable [Reg]
section
variable {X : Cx} {e : Expr} {es : List Expr} {ta : TA} {cn : Str} {p1 p2 pos : Pos}
end
section
variable {Pr : Program} {w : World} {K : PySem.W.Frag} {mg : Str → Option Value} {base : Heap}
end
end Me
/-! Me15e: the end, its tables named; where a text's inner functions lie. -/
namespace Me
open PySem PySem.Spec PyProof.Rows L2
theorem law_endR {R : Reg} {l : PySem.W.OpenLaw} {w : World} {K : PySem.W.Frag} {mg : Str → Option Value} {ad : Nat → Addr} {P : List Fn} {G : List (Str × PV)} {D : Tb} {cs : List (Addr × Addr)} {h : Heap} {m : Nat} (X : Txts K mg ad P G D cs) {g : Nat} {f : Fn} (hg : P[g]? = some f) {x : Str} (hp : f.ps = [x]) (ht : f.top = true) (hk : f.kd = 0) {fa : Addr} (hm : mg f.name = some (.ref fa)) (n : Nat)
    (hT : ∀ p ∈ cs, h.get? p.2 = some { cls := .none, data := .fields #[] }) (nT : ∀ p ∈ cs, K.lookup p.2 = none) (hC : ∀ p ∈ cs, PySem.W.CodeHd h p.1 p.2) (true' : ∀ ns : List Int, ns.length ≤ m → fns P (n + 1) g [.sh (.lst (ns.map PV.int))] = some (.sh (.bl true), [])) :
    LamX.LawAtS l w K CX0 (2 * n + 2 + 1 + 1) m x mg fa h := law_end X hg hp ht hk hm n hT nT hC true'
noncomputable def noNF : NFd := ⟨Str.empty, Str.empty, ⟨[], [], none, [], [], none, []⟩, .inl [], { kind := .function, names := [], isGenerator := false, isCoroutine := false }, []⟩
/-- facts that lean on no function at all -/
noncomputable instance (priority := low) regNone : Reg := { nf := fun _ => noNF, inn := fun _ => false, nm := fun _ _ => Str.empty, ad := fun _ => [] }
end Me
/-! Me16s: what a def gives; a comprehension's turn; a def's end. -/
namespace Me
open PySem PySem.Spec PyProof.Rows L2
/-- what a def gives that is lent nothing -/
noncomputable def fv (F : Fns) (g : Nat) (ps : List PV) : Option Sl := (F g (ps.map .sh)).map (·.1)
theorem flats_ints : ∀ ns : List Int, PV.flats (ns.map PV.int) = true
  | [] => by rw [List.map_nil, PV.flats]
  | n :: ns => by rw [List.map_cons, PV.flats, PV.flat, flats_ints ns]; rfl
theorem bltK_ne_sum : (("sum" : String) == "len") = false := by decide
theorem bltK_ne_all : (("all" : String) == "len") = false := by decide
theorem bltK_ne_any : (("any" : String) == "len") = false := by decide
theorem bltK_ne_abs : (("abs" : String) == "len") = false := by decide
theorem bltK_ne_max : (("max" : String) == "len") = false := by decide
theorem bltK_ne_min : (("min" : String) == "len") = false := by decide
theorem bltK_ne_int : (("int" : String) == "len") = false := by decide
theorem bltK_ne_str : (("str" : String) == "len") = false := by decide
theorem bltK_ne_list : (("list" : String) == "len") = false := by decide
theorem bltK_ne_tuple : (("tuple" : String) == "len") = false := by decide
theorem bltK_ne_sorted : (("sorted" : String) == "len") = false := by decide
/-- a comprehension's turn -/
noncomputable def turnC (F : Fns) (elt : E) (tg : Tg) (vs : List Nat) (cd : C) (p : PV) (e : PEnv) : Option (Option PV × PEnv) :=
  (bindT tg p e).bind fun e1 => (evC F cd e1).bind fun c => if c.1 then (ev F elt c.2).bind fun x => (fix x.2 x.1).map fun y => (some y.1, wipeE vs y.2) else some (none, wipeE vs c.2)
theorem asInts_map (ns : List Int) : asInts (ns.map PV.int) = some ns := by
  induction ns with
  | nil => rfl
  | cons n ns ih => show (asInts (ns.map PV.int)).map _ = _; rw [ih]; rfl
theorem asBls_map (ns : List Bool) : asBls (ns.map PV.bl) = some ns := by
  induction ns with
  | nil => rfl
  | cons n ns ih => show (asBls (ns.map PV.bl)).map _ = _; rw [ih]; rfl
theorem asStrs_map (ns : List Str) : asStrs (ns.map PV.str) = some ns := by
  induction ns with
  | nil => rfl
  | cons n ns ih => show (asStrs (ns.map PV.str)).map _ = _; rw [ih]; rfl
theorem kit_non_tuple : kitB "NoneType" "tuple" = some false := by decide +kernel
theorem kit_non_list : kitB "NoneType" "list" = some false := by decide +kernel
theorem kit_non_bool : kitB "NoneType" "bool" = some false := by decide +kernel
theorem kit_non_int : kitB "NoneType" "int" = some false := by decide +kernel
theorem kit_non_str : kitB "NoneType" "str" = some false := by decide +kernel
theorem kit_bl_tuple : kitB "bool" "tuple" = some false := by decide +kernel
theorem kit_bl_list : kitB "bool" "list" = some false := by decide +kernel
theorem kit_bl_bool : kitB "bool" "bool" = some true := by decide +kernel
theorem kit_bl_int : kitB "bool" "int" = some true := by decide +kernel
theorem kit_bl_str : kitB "bool" "str" = some false := by decide +kernel
theorem kit_int_tuple : kitB "int" "tuple" = some false := by decide +kernel
theorem kit_int_list : kitB "int" "list" = some false := by decide +kernel
theorem kit_int_bool : kitB "int" "bool" = some false := by decide +kernel
theorem kit_int_int : kitB "int" "int" = some true := by decide +kernel
theorem kit_int_str : kitB "int" "str" = some false := by decide +kernel
theorem kit_str_tuple : kitB "str" "tuple" = some false := by decide +kernel
theorem kit_str_list : kitB "str" "list" = some false := by decide +kernel
theorem kit_str_bool : kitB "str" "bool" = some false := by decide +kernel
theorem kit_str_int : kitB "str" "int" = some false := by decide +kernel
theorem kit_str_str : kitB "str" "str" = some true := by decide +kernel
theorem kit_lst_tuple : kitB "list" "tuple" = some false := by decide +kernel
theorem kit_lst_list : kitB "list" "list" = some true := by decide +kernel
theorem kit_lst_bool : kitB "list" "bool" = some false := by decide +kernel
theorem kit_lst_int : kitB "list" "int" = some false := by decide +kernel
theorem kit_lst_str : kitB "list" "str" = some false := by decide +kernel
theorem kit_tup_tuple : kitB "tuple" "tuple" = some true := by decide +kernel
theorem kit_tup_list : kitB "tuple" "list" = some false := by decide +kernel
theorem kit_tup_bool : kitB "tuple" "bool" = some false := by decide +kernel
theorem kit_tup_int : kitB "tuple" "int" = some false := by decide +kernel
theorem kit_dct_dict : kitB "dict" "dict" = some true := by decide +kernel
theorem kit_tup_str : kitB "tuple" "str" = some false := by decide +kernel
/-- a def's end, where nothing is lent -/
noncomputable def finK : Option Fl → Option Sl
  | some (.ret s _) => some s
  | some (.next _) => some (.sh .non)
  | _ => none
theorem finK_ret {s : Sl} {e : PEnv} : finK (some (.ret s e)) = some s := rfl
theorem finK_next {e : PEnv} : finK (some (.next e)) = some (.sh .non) := rfl
theorem k3 {k : Nat} (h : (k == 3) = false) : ¬ k = 3 := fun z => by rw [z] at h; cases h
theorem fv_run {P : List Fn} {n g : Nat} {f : Fn} (h : P[g]? = some f) (hl : f.lent = []) {ps : List PV} (ha : ps.length = f.ps.length) (hk : (f.kd == 3) = false := by rfl) : fv (fns P (n + 1)) g ps = finK (exs (fns P n) f.body ((ps.map fun p => some (Sl.sh p)) ++ List.replicate (f.N.length - ps.length) none)) := by
  unfold fv
  simp only [fns, h, Fn.run, hl]
  rw [if_pos (by rw [List.length_map]; exact ha), if_neg (k3 hk), List.length_map, List.map_map]
  show Option.map _ (match exs (fns P n) f.body ((ps.map fun p => some (Sl.sh p)) ++ List.replicate (f.N.length - ps.length) none) with
    | some (.ret s env) => (backs [] env).map fun r => (s, r)
    | some (.next env) => (backs [] env).map fun r => (.sh .non, r)
    | _ => none) = _
  cases exs (fns P n) f.body ((ps.map fun p => some (Sl.sh p)) ++ List.replicate (f.N.length - ps.length) none) with
  | none => rfl
  | some r => cases r <;> rfl
theorem fv_law {P : List Fn} {n g : Nat} {f : Fn} (h : P[g]? = some f) (hl : f.lent = []) {p : PV} {s : Sl} (e : fv (fns P n) g [p] = some s) (hk : (f.kd == 3) = false := by rfl) : fns P n g [.sh p] = some (s, []) := by
  unfold fv at e
  rw [Option.map_eq_some_iff] at e
  obtain ⟨⟨t, r⟩, e1, e2⟩ := e
  cases e2
  have e1' : fns P n g [.sh p] = some (t, r) := e1
  rw [e1']
  cases n with
  | zero => cases e1'
  | succ n =>
    simp only [fns, h, Fn.run, hl] at e1'
    rw [if_neg (k3 hk)] at e1'
    split at e1'
    · split at e1'
      · cases e1'; rfl
      · cases e1'; rfl
      · cases e1'
    · cases e1'
/-- a def's end, where some is lent -/
noncomputable def finL (ls : List Bool) : Option Fl → Option (Sl × List Sl)
  | some (.ret s env) => (backs ls env).map fun r => (s, r)
  | some (.next env) => (backs ls env).map fun r => (.sh .non, r)
  | _ => none
theorem run_l {P : List Fn} {n g : Nat} {f : Fn} (h : P[g]? = some f) {args : List Sl} (ha : args.length = f.ps.length) (hk : (f.kd == 3) = false := by rfl) : fns P (n + 1) g args = finL f.lent (exs (fns P n) f.body (args.map some ++ List.replicate (f.N.length - args.length) none)) := by
  simp only [fns, h, Fn.run]
  rw [if_pos ha, if_neg (k3 hk)]
  unfold finL
  cases exs (fns P n) f.body (args.map some ++ List.replicate (f.N.length - args.length) none) with
  | none => rfl
  | some r => cases r <;> rfl
end Me
/-! Me17: loops by what they keep. -/
namespace Me
open PySem PySem.Spec PyProof.Rows L2
section
variable {α β : Type}
theorem comp_go' {step : PV → PEnv → Option (Option PV × PEnv)} {E : PEnv} {g : α → PV} {f : α → Option PV} :
    ∀ (zs : List α) (acc : List PV), (∀ z ∈ zs, step (g z) E = some (f z, E)) → acc.length + zs.length ≤ 16777216 →
      compL step (zs.map g) E acc = some (acc ++ zs.filterMap f, E)
  | [], acc, _, _ => by rw [List.filterMap_nil, List.append_nil]; rfl
  | z :: zs, acc, h, hl => by
    rw [List.length_cons] at hl
    show (step (g z) E).bind _ = _
    rw [h z List.mem_cons_self, Option.bind_some]
    have h' : ∀ w ∈ zs, step (g w) E = some (f w, E) := fun w hw => h w (List.mem_cons_of_mem _ hw)
    cases e : f z with
    | none => rw [List.filterMap_cons_none e]; exact comp_go' zs acc h' (by omega)
    | some q =>
      rw [List.filterMap_cons_some e]
      show (if acc.length < 16777216 then compL step (zs.map g) E (acc ++ [q]) else none) = _
      rw [if_pos (by omega), comp_go' zs _ h' (by rw [List.length_append]; simp only [List.length_cons, List.length_nil]; omega), List.append_assoc]
      rfl
/-- a comprehension over a list: each turn leaves the cells as they were -/
theorem comp_go {step : PV → PEnv → Option (Option PV × PEnv)} {E : PEnv} {xs : List PV} {k : List PV × PEnv → Option β} (zs : List α) (g : α → PV) (f : α → Option PV)
    (hx : xs = zs.map g) (h : ∀ z ∈ zs, step (g z) E = some (f z, E)) (hl : zs.length ≤ 16777216) : (compL step xs E []).bind k = k (zs.filterMap f, E) := by
  subst hx
  rw [comp_go' zs [] h (by simp only [List.length_nil]; omega)]
  rfl
theorem comp_map {step : PV → PEnv → Option (Option PV × PEnv)} {E : PEnv} {xs : List PV} {k : List PV × PEnv → Option β} (zs : List α) (g : α → PV) (f : α → PV)
    (hx : xs = zs.map g) (h : ∀ z ∈ zs, step (g z) E = some (some (f z), E)) (hl : zs.length ≤ 16777216) : (compL step xs E []).bind k = k (zs.map f, E) := by
  rw [comp_go zs g (fun z => some (f z)) hx h hl]
  have q : ∀ ws : List α, ws.filterMap (fun z => some (f z)) = ws.map f := fun ws => by
    induction ws with
    | nil => rfl
    | cons z ws ih => show List.filterMap (fun z => some (f z)) (z :: ws) = f z :: ws.map f; rw [← ih]; rfl
  rw [q]
/-- a for loop that keeps I, told by what is walked already -/
theorem for_inv {body : PV → PEnv → Option Fl} {g : α → PV} (I : List α → PEnv → Prop) :
    ∀ (zs pre : List α) (e : PEnv), (∀ p z q e, pre ++ zs = p ++ z :: q → I p e → ∃ e', body (g z) e = some (.next e') ∧ I (p ++ [z]) e') → I pre e →
      ∃ e', forL body (zs.map g) e = some (.next e') ∧ I (pre ++ zs) e'
  | [], pre, e, _, h0 => ⟨e, rfl, by rw [List.append_nil]; exact h0⟩
  | z :: zs, pre, e, h, h0 => by
    obtain ⟨e', he, hi⟩ := h pre z zs e rfl h0
    have q : (pre ++ [z]) ++ zs = pre ++ z :: zs := by rw [List.append_assoc]; rfl
    obtain ⟨e2, h2, i2⟩ := for_inv I zs (pre ++ [z]) e' (fun p w r e hp => h p w r e (q.symm.trans hp)) hi
    refine ⟨e2, ?_, q ▸ i2⟩
    show (body (g z) e).bind _ = _
    rw [he]
    exact h2
theorem range_split {n z : Nat} {p q : List Nat} (h : List.range n = p ++ z :: q) : p = List.range z ∧ z < n := by
  have hl : n = p.length + (q.length + 1) := by
    have := congrArg List.length h
    rw [List.length_range, List.length_append, List.length_cons] at this
    exact this
  have hz : z = p.length := by
    have h1 : (List.range n)[p.length]? = some p.length := by rw [List.getElem?_range (by omega)]
    rw [h, List.getElem?_append_right (Nat.le_refl _), Nat.sub_self] at h1
    exact Option.some.inj h1
  refine ⟨?_, by omega⟩
  have h2 : (List.range n).take p.length = p := by rw [h, List.take_left']; rfl
  rw [List.take_range] at h2
  rw [← h2, hz]
  congr 1
  omega
theorem take_next {γ : Type} (zs : List γ) (d : γ) (x : Nat) (h : x < zs.length) : zs.take (x + 1) = zs.take x ++ [zs.getD x d] := by
  rw [List.take_succ, List.getD_eq_getElem?_getD, List.getElem?_eq_getElem h]
  rfl
theorem bind_id {γ : Type} {x : Option γ} {r : Option γ} (h : (x.bind fun z => some z) = r) : x = r := by
  subst h; cases x <;> rfl
end
theorem atI_map {α : Type} (g : α → PV) (zs : List α) (d : α) (i : Int) (h0 : 0 ≤ i) (h1 : i < zs.length) : atI (zs.map g) i = some (g (zs.getD i.toNat d)) := by
  unfold atI ixN
  rw [if_pos h0, List.length_map, if_pos (by omega), Option.bind_some, List.getElem?_map, List.getD_eq_getElem?_getD]
  rw [List.getElem?_eq_getElem (by omega)]
  rfl
theorem getD_mem {γ : Type} {xs : List γ} {i : Nat} {d : γ} (h : i < xs.length) : xs.getD i d ∈ xs := by
  rw [List.getD_eq_getElem?_getD, List.getElem?_eq_getElem h]
  exact List.getElem_mem h
theorem rangeL_zero (n : Nat) : rangeL 0 n = (List.range n).map fun (k : Nat) => .int (k : Int) := by
  unfold rangeL
  congr; funext k
  rw [Int.zero_add]
/-- a value at most d deep, with no list longer than the limit -/
noncomputable def okD : Nat → PV → Prop
  | d + 1, .lst xs => xs.length ≤ 16777216 ∧ ∀ x ∈ xs, okD d x
  | d + 1, .tup xs => xs.length ≤ 16777216 ∧ ∀ x ∈ xs, okD d x
  | 0, .lst _ => False
  | 0, .tup _ => False
  | _, .dct _ _ => False
  | _, .obj _ _ _ => False
  | _, .fn _ _ => False
  | _, .adr _ => False
  | _, .exc _ _ _ => False
  | _, _ => True
theorem okD_dct {d t : Nat} {kvs : List (PV × PV)} (h : okD d (.dct t kvs)) : False := by cases d <;> exact h
theorem okD_obj {d : Nat} {c : Str} {ns : List Str} {xs : List PV} (h : okD d (.obj c ns xs)) : False := by cases d <;> exact h
theorem okD_int {i : Int} : ∀ d, okD d (.int i) | 0 => trivial | _ + 1 => trivial
theorem okD_bl {i : Bool} : ∀ d, okD d (.bl i) | 0 => trivial | _ + 1 => trivial
theorem okD_str {i : Str} : ∀ d, okD d (.str i) | 0 => trivial | _ + 1 => trivial
theorem zipWith_self {xs : List PV} : xs.zipWith (fun x y => PV.tup [x, y]) xs = xs.map fun x => PV.tup [x, x] := by
  induction xs with
  | nil => rfl
  | cons x xs ih => rw [List.zipWith_cons_cons, ih]; rfl
theorem all_trues {xs : List PV} : (xs.map fun _ => true).all id = true := by
  induction xs with
  | nil => rfl
  | cons x xs ih => exact ih
end Me
/-! Me18: the evaluator by plain equations, for the structural simplifier. Printed by mk18.py. -/
namespace Me
open PySem PySem.Spec PyProof.Rows L2
/-- one level of calls more; opaque to the simplifier's sums -/
noncomputable def lu (n : Nat) : Nat := n + 1
noncomputable def lus (n : Nat) : Nat → Nat
  | 0 => n
  | d + 1 => lu (lus n d)
noncomputable abbrev bd0 {α β : Type} (x : Option α) (k : α → Option β) : Option β := match x with
  | none => none
  | some a => k a
noncomputable abbrev bd20 {α β γ : Type} (x : Option (α × β)) (k : α → β → Option γ) : Option γ := match x with
  | none => none
  | some (a, b) => k a b
noncomputable abbrev sq0 (x : Option Fl) (k : PEnv → Option Fl) : Option Fl := match x with
  | none => none
  | some (.next e) => k e
  | some (.ret v e) => some (.ret v e)
  | some (.brk e) => some (.brk e)
/-- what it is about, as a type: keeps the simplifier out of k -/
noncomputable def Wit {α : Type} (_ : α) : Type := Unit
noncomputable def wt {α : Type} {a : α} : Wit a := ()
noncomputable def bd {α β : Type} (x : Option α) (k : α → Option β) (_ : Wit k) : Option β := match x with
  | none => none
  | some a => k a
noncomputable def bd2 {α β γ : Type} (x : Option (α × β)) (k : α → β → Option γ) (_ : Wit k) : Option γ := match x with
  | none => none
  | some (a, b) => k a b
noncomputable def sq (x : Option Fl) (k : PEnv → Option Fl) (_ : Wit k) : Option Fl := match x with
  | none => none
  | some (.next e) => k e
  | some (.ret v e) => some (.ret v e)
  | some (.brk e) => some (.brk e)
noncomputable def fq (x : Option Fl) (k : PEnv → Option Sl) (_ : Wit k) : Option Sl := match x with
  | none => none
  | some (.next e) => k e
  | some (.ret v _) => some v
  | some (.brk _) => none
noncomputable def sqX (x : Option Fl) (k : PEnv → Option Xc) (_ : Wit k) : Option Xc := match x with
  | some (.next e) => k e
  | _ => none
noncomputable def orX (x : Option Xc) (k : Unit → Option Xc) (_ : Wit k) : Option Xc := match x with
  | some r => some r
  | none => k ()
open Classical in
/-- a guard -/
noncomputable def gu {α : Type} (c : Prop) (a : Option α) : Option α := if c then a else none
theorem gu_ok {α : Type} {c : Prop} {a : Option α} (h : c) : gu c a = a := if_pos h
theorem gu_if {α : Type} {c : Prop} [Decidable c] {a : Option α} : (if c then a else none) = gu c a := by unfold gu; by_cases h : c <;> simp [h]
open Classical in
/-- a spec's condition, shown later -/
noncomputable def gx {α : Type} (c : Prop) (x : Unit → Option α) (_ : Wit x) (a : Option α) : Option α := if c then a else x ()
theorem gx_ok {α : Type} {c : Prop} {x : Unit → Option α} {w : Wit x} {a : Option α} (h : c) : gx c x w a = a := if_pos h
theorem gx_of {α : Type} {c : Prop} {X a : Option α} {w : Wit fun _ : Unit => X} (h : c → X = a) : X = gx c (fun _ => X) w a := by
  unfold gx; split
  · exact h ‹_›
  · rfl
open Classical in
/-- a fact that a spec gives -/
noncomputable def gf {α : Type} (c : Prop) (_ : c) (a : Option α) : Option α := if c then a else none
theorem gf_ok {α : Type} {c : Prop} {h : c} {a : Option α} : gf c h a = a := if_pos h
theorem gx_og {α : Type} {c : Prop} {X a : Option α} {w : Wit fun _ : Unit => X} {f : Prop} {hf : f} (h : c → X = a) : X = gx c (fun _ => X) w (gf f hf a) := gx_of fun z => (h z).trans gf_ok.symm
theorem cond_pos {α : Type} {p : Prop} [Decidable p] {a b : α} (h : p) : cond (decide p) a b = a := by rw [decide_eq_true h]; rfl
theorem cond_neg {α : Type} {p : Prop} [Decidable p] {a b : α} (h : ¬ p) : cond (decide p) a b = b := by rw [decide_eq_false h]; rfl
theorem bif_c {α : Type} {b : Bool} {x y : α} : (if b = true then x else y) = cond b x y := by cases b <;> rfl

theorem bind2 {α β γ : Type} {x : Option (α × β)} {f : α × β → Option γ} : x.bind f = bd20 x fun a b => f (a, b) := by rcases x with _ | ⟨a, b⟩ <;> rfl
theorem bind1 {α γ : Type} {x : Option α} {f : α → Option γ} : x.bind f = bd0 x f := by cases x <;> rfl
theorem map1 {α γ : Type} {x : Option α} {f : α → γ} : x.map f = bd0 x fun a => some (f a) := by cases x <;> rfl
theorem map2 {α β γ : Type} {x : Option (α × β)} {f : α × β → γ} : x.map f = bd20 x fun a b => some (f (a, b)) := by rcases x with _ | ⟨a, b⟩ <;> rfl
section
variable {α β γ δ ε : Type}
theorem bd_n {k : α → Option β} {w : Wit k}  : bd none k w = none := rfl
theorem bd_s {k : α → Option β} {w : Wit k} {a : α} : bd (some a) k w = k a := rfl
theorem bd2_n {k : α → β → Option γ} {w : Wit k}  : bd2 none k w = none := rfl
theorem bd2_s {k : α → β → Option γ} {w : Wit k} {a : α} {b : β} : bd2 (some (a, b)) k w = k a b := rfl
theorem sq_n {k : PEnv → Option Fl} {w : Wit k}  : sq none k w = none := rfl
theorem sq_x {k : PEnv → Option Fl} {w : Wit k} {e : PEnv} : sq (some (.next e)) k w = k e := rfl
theorem sq_r {k : PEnv → Option Fl} {w : Wit k} {v : Sl} {e : PEnv} : sq (some (.ret v e)) k w = some (.ret v e) := rfl
theorem sq_b {k : PEnv → Option Fl} {w : Wit k} {e : PEnv} : sq (some (.brk e)) k w = some (.brk e) := rfl
theorem fq_n {k : PEnv → Option Sl} {w : Wit k}  : fq none k w = none := rfl
theorem fq_x {k : PEnv → Option Sl} {w : Wit k} {e : PEnv} : fq (some (.next e)) k w = k e := rfl
theorem fq_r {k : PEnv → Option Sl} {w : Wit k} {v : Sl} {e : PEnv} : fq (some (.ret v e)) k w = some v := rfl
theorem sqX_n {k : PEnv → Option Xc} {w : Wit k}  : sqX none k w = none := rfl
theorem sqX_x {k : PEnv → Option Xc} {w : Wit k} {e : PEnv} : sqX (some (.next e)) k w = k e := rfl
theorem sqX_r {k : PEnv → Option Xc} {w : Wit k} {v : Sl} {e : PEnv} : sqX (some (.ret v e)) k w = none := rfl
theorem sqX_b {k : PEnv → Option Xc} {w : Wit k} {e : PEnv} : sqX (some (.brk e)) k w = none := rfl
theorem orX_n {k : Unit → Option Xc} {w : Wit k}  : orX none k w = k () := rfl
theorem orX_s {k : Unit → Option Xc} {w : Wit k} {r : Xc} : orX (some r) k w = some r := rfl
theorem as_bd_bd {x : Option α} {k : α → Option β} {w : Wit k} {f : β → Option γ} {w2 : Wit f} : bd (bd x k w) f w2 = bd x (fun a => bd (k a) f wt) wt := by cases x <;> rfl
theorem as_bd_bd2 {x : Option (α × δ)} {k : α → δ → Option β} {w : Wit k} {f : β → Option γ} {w2 : Wit f} : bd (bd2 x k w) f w2 = bd2 x (fun a b => bd (k a b) f wt) wt := by rcases x with _ | ⟨a, b⟩ <;> rfl
theorem as_bd_gu {c : Prop} {x : Option β} {f : β → Option γ} {w2 : Wit f} : bd (gu c x) f w2 = gu c (bd (x) f wt) := by unfold gu; split <;> rfl
theorem as_bd_if {c : Prop} [Decidable c] {x y : Option β} {f : β → Option γ} {w2 : Wit f} : bd (if c then x else y) f w2 = if c then bd (x) f wt else bd (y) f wt := by split <;> rfl
theorem as_bd_co {c : Bool} {x y : Option β} {f : β → Option γ} {w2 : Wit f} : bd (cond c x y) f w2 = cond c (bd (x) f wt) (bd (y) f wt) := by cases c <;> rfl
theorem as_bd2_bd {x : Option α} {k : α → Option (β × ε)} {w : Wit k} {f : β → ε → Option γ} {w2 : Wit f} : bd2 (bd x k w) f w2 = bd x (fun a => bd2 (k a) f wt) wt := by cases x <;> rfl
theorem as_bd2_bd2 {x : Option (α × δ)} {k : α → δ → Option (β × ε)} {w : Wit k} {f : β → ε → Option γ} {w2 : Wit f} : bd2 (bd2 x k w) f w2 = bd2 x (fun a b => bd2 (k a b) f wt) wt := by rcases x with _ | ⟨a, b⟩ <;> rfl
theorem as_bd2_gu {c : Prop} {x : Option (β × ε)} {f : β → ε → Option γ} {w2 : Wit f} : bd2 (gu c x) f w2 = gu c (bd2 (x) f wt) := by unfold gu; split <;> rfl
theorem as_bd2_if {c : Prop} [Decidable c] {x y : Option (β × ε)} {f : β → ε → Option γ} {w2 : Wit f} : bd2 (if c then x else y) f w2 = if c then bd2 (x) f wt else bd2 (y) f wt := by split <;> rfl
theorem as_bd2_co {c : Bool} {x y : Option (β × ε)} {f : β → ε → Option γ} {w2 : Wit f} : bd2 (cond c x y) f w2 = cond c (bd2 (x) f wt) (bd2 (y) f wt) := by cases c <;> rfl
theorem as_sq_bd {x : Option α} {k : α → Option Fl} {w : Wit k} {f : PEnv → Option Fl} {w2 : Wit f} : sq (bd x k w) f w2 = bd x (fun a => sq (k a) f wt) wt := by cases x <;> rfl
theorem as_sq_bd2 {x : Option (α × δ)} {k : α → δ → Option Fl} {w : Wit k} {f : PEnv → Option Fl} {w2 : Wit f} : sq (bd2 x k w) f w2 = bd2 x (fun a b => sq (k a b) f wt) wt := by rcases x with _ | ⟨a, b⟩ <;> rfl
theorem as_sq_gu {c : Prop} {x : Option Fl} {f : PEnv → Option Fl} {w2 : Wit f} : sq (gu c x) f w2 = gu c (sq (x) f wt) := by unfold gu; split <;> rfl
theorem as_sq_if {c : Prop} [Decidable c] {x y : Option Fl} {f : PEnv → Option Fl} {w2 : Wit f} : sq (if c then x else y) f w2 = if c then sq (x) f wt else sq (y) f wt := by split <;> rfl
theorem as_sq_co {c : Bool} {x y : Option Fl} {f : PEnv → Option Fl} {w2 : Wit f} : sq (cond c x y) f w2 = cond c (sq (x) f wt) (sq (y) f wt) := by cases c <;> rfl
theorem as_fq_bd {x : Option α} {k : α → Option Fl} {w : Wit k} {f : PEnv → Option Sl} {w2 : Wit f} : fq (bd x k w) f w2 = bd x (fun a => fq (k a) f wt) wt := by cases x <;> rfl
theorem as_fq_bd2 {x : Option (α × δ)} {k : α → δ → Option Fl} {w : Wit k} {f : PEnv → Option Sl} {w2 : Wit f} : fq (bd2 x k w) f w2 = bd2 x (fun a b => fq (k a b) f wt) wt := by rcases x with _ | ⟨a, b⟩ <;> rfl
theorem as_fq_gu {c : Prop} {x : Option Fl} {f : PEnv → Option Sl} {w2 : Wit f} : fq (gu c x) f w2 = gu c (fq (x) f wt) := by unfold gu; split <;> rfl
theorem as_fq_if {c : Prop} [Decidable c] {x y : Option Fl} {f : PEnv → Option Sl} {w2 : Wit f} : fq (if c then x else y) f w2 = if c then fq (x) f wt else fq (y) f wt := by split <;> rfl
theorem as_fq_co {c : Bool} {x y : Option Fl} {f : PEnv → Option Sl} {w2 : Wit f} : fq (cond c x y) f w2 = cond c (fq (x) f wt) (fq (y) f wt) := by cases c <;> rfl
theorem as_fn_bd {x : Option α} {k : α → Option Fl} {w : Wit k}  : finK (bd x k w) = bd x (fun a => finK (k a)) wt := by cases x <;> rfl
theorem as_fn_bd2 {x : Option (α × δ)} {k : α → δ → Option Fl} {w : Wit k}  : finK (bd2 x k w) = bd2 x (fun a b => finK (k a b)) wt := by rcases x with _ | ⟨a, b⟩ <;> rfl
theorem as_fn_gu {c : Prop} {x : Option Fl}  : finK (gu c x) = gu c (finK (x)) := by unfold gu; split <;> rfl
theorem as_fn_if {c : Prop} [Decidable c] {x y : Option Fl}  : finK (if c then x else y) = if c then finK (x) else finK (y) := by split <;> rfl
theorem as_fn_co {c : Bool} {x y : Option Fl}  : finK (cond c x y) = cond c (finK (x)) (finK (y)) := by cases c <;> rfl
theorem as_sx_bd {x : Option α} {k : α → Option Fl} {w : Wit k} {f : PEnv → Option Xc} {w2 : Wit f} : sqX (bd x k w) f w2 = bd x (fun a => sqX (k a) f wt) wt := by cases x <;> rfl
theorem as_sx_bd2 {x : Option (α × δ)} {k : α → δ → Option Fl} {w : Wit k} {f : PEnv → Option Xc} {w2 : Wit f} : sqX (bd2 x k w) f w2 = bd2 x (fun a b => sqX (k a b) f wt) wt := by rcases x with _ | ⟨a, b⟩ <;> rfl
theorem as_sx_gu {c : Prop} {x : Option Fl} {f : PEnv → Option Xc} {w2 : Wit f} : sqX (gu c x) f w2 = gu c (sqX (x) f wt) := by unfold gu; split <;> rfl
theorem as_sx_if {c : Prop} [Decidable c] {x y : Option Fl} {f : PEnv → Option Xc} {w2 : Wit f} : sqX (if c then x else y) f w2 = if c then sqX (x) f wt else sqX (y) f wt := by split <;> rfl
theorem as_sx_co {c : Bool} {x y : Option Fl} {f : PEnv → Option Xc} {w2 : Wit f} : sqX (cond c x y) f w2 = cond c (sqX (x) f wt) (sqX (y) f wt) := by cases c <;> rfl
theorem as_bd_gx {c : Prop} {x : Unit → Option β} {w : Wit x} {a : Option β} {f : β → Option γ} {w2 : Wit f} : bd (gx c x w a) f w2 = gx c (fun _ => bd (x ()) f wt) wt (bd (a) f wt) := by unfold gx; split <;> rfl
theorem as_bd_gf {c : Prop} {h : c} {a : Option β} {f : β → Option γ} {w2 : Wit f} : bd (gf c h a) f w2 = gf c h (bd (a) f wt) := by rw [gf_ok, gf_ok] <;> rfl
theorem as_bd2_gx {c : Prop} {x : Unit → Option (β × ε)} {w : Wit x} {a : Option (β × ε)} {f : β → ε → Option γ} {w2 : Wit f} : bd2 (gx c x w a) f w2 = gx c (fun _ => bd2 (x ()) f wt) wt (bd2 (a) f wt) := by unfold gx; split <;> rfl
theorem as_bd2_gf {c : Prop} {h : c} {a : Option (β × ε)} {f : β → ε → Option γ} {w2 : Wit f} : bd2 (gf c h a) f w2 = gf c h (bd2 (a) f wt) := by rw [gf_ok, gf_ok] <;> rfl
theorem as_sq_gx {c : Prop} {x : Unit → Option Fl} {w : Wit x} {a : Option Fl} {f : PEnv → Option Fl} {w2 : Wit f} : sq (gx c x w a) f w2 = gx c (fun _ => sq (x ()) f wt) wt (sq (a) f wt) := by unfold gx; split <;> rfl
theorem as_sq_gf {c : Prop} {h : c} {a : Option Fl} {f : PEnv → Option Fl} {w2 : Wit f} : sq (gf c h a) f w2 = gf c h (sq (a) f wt) := by rw [gf_ok, gf_ok] <;> rfl
theorem as_fq_gx {c : Prop} {x : Unit → Option Fl} {w : Wit x} {a : Option Fl} {f : PEnv → Option Sl} {w2 : Wit f} : fq (gx c x w a) f w2 = gx c (fun _ => fq (x ()) f wt) wt (fq (a) f wt) := by unfold gx; split <;> rfl
theorem as_fq_gf {c : Prop} {h : c} {a : Option Fl} {f : PEnv → Option Sl} {w2 : Wit f} : fq (gf c h a) f w2 = gf c h (fq (a) f wt) := by rw [gf_ok, gf_ok] <;> rfl
theorem as_fn_gx {c : Prop} {x : Unit → Option Fl} {w : Wit x} {a : Option Fl}  : finK (gx c x w a) = gx c (fun _ => finK (x ())) wt (finK (a)) := by unfold gx; split <;> rfl
theorem as_fn_gf {c : Prop} {h : c} {a : Option Fl}  : finK (gf c h a) = gf c h (finK (a)) := by rw [gf_ok, gf_ok] <;> rfl
theorem as_sx_gx {c : Prop} {x : Unit → Option Fl} {w : Wit x} {a : Option Fl} {f : PEnv → Option Xc} {w2 : Wit f} : sqX (gx c x w a) f w2 = gx c (fun _ => sqX (x ()) f wt) wt (sqX (a) f wt) := by unfold gx; split <;> rfl
theorem as_sx_gf {c : Prop} {h : c} {a : Option Fl} {f : PEnv → Option Xc} {w2 : Wit f} : sqX (gf c h a) f w2 = gf c h (sqX (a) f wt) := by rw [gf_ok, gf_ok] <;> rfl
theorem as_sq_sq {x : Option Fl} {k : PEnv → Option Fl} {w : Wit k} {f : PEnv → Option Fl} {w2 : Wit f} : sq (sq x k w) f w2 = sq x (fun e => sq (k e) f wt) wt := by rcases x with _ | _ | _ | _ <;> rfl
theorem as_fq_sq {x : Option Fl} {k : PEnv → Option Fl} {w : Wit k} {f : PEnv → Option Sl} {w2 : Wit f} : fq (sq x k w) f w2 = fq x (fun e => fq (k e) f wt) wt := by rcases x with _ | _ | _ | _ <;> rfl
theorem as_sx_sq {x : Option Fl} {k : PEnv → Option Fl} {w : Wit k} {f : PEnv → Option Xc} {w2 : Wit f} : sqX (sq x k w) f w2 = sqX x (fun e => sqX (k e) f wt) wt := by rcases x with _ | _ | _ | _ <;> rfl
theorem as_fn_sq {x : Option Fl} {k : PEnv → Option Fl} {w : Wit k} : finK (sq x k w) = fq x (fun e => finK (k e)) wt := by rcases x with _ | _ | _ | _ <;> rfl
theorem gu_t {x : Option α} : gu True x = x := gu_ok trivial
theorem gu_f {x : Option α} : gu False x = none := by unfold gu; rw [if_neg id]
theorem gu_n {c : Prop} : gu c (none : Option α) = none := by unfold gu; split <;> rfl
theorem gu_and {c d : Prop} {x : Option α} : gu (c ∧ d) x = gu c (gu d x) := by unfold gu; by_cases h : c <;> by_cases h2 : d <;> simp [h, h2]
theorem gx_t {x : Unit → Option α} {w : Wit x} {a : Option α} : gx True x w a = a := gx_ok trivial
theorem gx_f {x : Unit → Option α} {w : Wit x} {a : Option α} : gx False x w a = x () := by unfold gx; rw [if_neg id]
theorem gx_and {c d : Prop} {x : Unit → Option α} {w : Wit x} {a : Option α} : gx (c ∧ d) x w a = gx c x wt (gx d x wt a) := by unfold gx; by_cases h : c <;> by_cases h2 : d <;> simp [h, h2]
theorem iteN {c : Prop} [Decidable c] [Decidable (¬ c)] {a b : α} : (if ¬ c then a else b) = if c then b else a := by by_cases h : c <;> simp [h]
theorem co_n {c : Bool} {a b : α} : cond (!c) a b = cond c b a := by cases c <;> rfl
theorem fst_mk {a : α} {b : β} : (a, b).1 = a := rfl
theorem snd_mk {a : α} {b : β} : (a, b).2 = b := rfl
end
section
variable {F : Fns} {env : PEnv} {α : Type}
theorem gd0 {x0 : Option Sl} {l : List (Option Sl)} {d : Option Sl} : List.getD (x0 :: l) 0 d = x0 := rfl
theorem st0 {x0 v : Option Sl} {l : List (Option Sl)} : List.set (x0 :: l) 0 v = v :: l := rfl
theorem gd1 {x0 x1 : Option Sl} {l : List (Option Sl)} {d : Option Sl} : List.getD (x0 :: x1 :: l) 1 d = x1 := rfl
theorem st1 {x0 x1 v : Option Sl} {l : List (Option Sl)} : List.set (x0 :: x1 :: l) 1 v = x0 :: v :: l := rfl
theorem gd2 {x0 x1 x2 : Option Sl} {l : List (Option Sl)} {d : Option Sl} : List.getD (x0 :: x1 :: x2 :: l) 2 d = x2 := rfl
theorem st2 {x0 x1 x2 v : Option Sl} {l : List (Option Sl)} : List.set (x0 :: x1 :: x2 :: l) 2 v = x0 :: x1 :: v :: l := rfl
theorem gd3 {x0 x1 x2 x3 : Option Sl} {l : List (Option Sl)} {d : Option Sl} : List.getD (x0 :: x1 :: x2 :: x3 :: l) 3 d = x3 := rfl
theorem st3 {x0 x1 x2 x3 v : Option Sl} {l : List (Option Sl)} : List.set (x0 :: x1 :: x2 :: x3 :: l) 3 v = x0 :: x1 :: x2 :: v :: l := rfl
theorem gd4 {x0 x1 x2 x3 x4 : Option Sl} {l : List (Option Sl)} {d : Option Sl} : List.getD (x0 :: x1 :: x2 :: x3 :: x4 :: l) 4 d = x4 := rfl
theorem st4 {x0 x1 x2 x3 x4 v : Option Sl} {l : List (Option Sl)} : List.set (x0 :: x1 :: x2 :: x3 :: x4 :: l) 4 v = x0 :: x1 :: x2 :: x3 :: v :: l := rfl
theorem gd5 {x0 x1 x2 x3 x4 x5 : Option Sl} {l : List (Option Sl)} {d : Option Sl} : List.getD (x0 :: x1 :: x2 :: x3 :: x4 :: x5 :: l) 5 d = x5 := rfl
theorem st5 {x0 x1 x2 x3 x4 x5 v : Option Sl} {l : List (Option Sl)} : List.set (x0 :: x1 :: x2 :: x3 :: x4 :: x5 :: l) 5 v = x0 :: x1 :: x2 :: x3 :: x4 :: v :: l := rfl
theorem gd6 {x0 x1 x2 x3 x4 x5 x6 : Option Sl} {l : List (Option Sl)} {d : Option Sl} : List.getD (x0 :: x1 :: x2 :: x3 :: x4 :: x5 :: x6 :: l) 6 d = x6 := rfl
theorem st6 {x0 x1 x2 x3 x4 x5 x6 v : Option Sl} {l : List (Option Sl)} : List.set (x0 :: x1 :: x2 :: x3 :: x4 :: x5 :: x6 :: l) 6 v = x0 :: x1 :: x2 :: x3 :: x4 :: x5 :: v :: l := rfl
theorem gd7 {x0 x1 x2 x3 x4 x5 x6 x7 : Option Sl} {l : List (Option Sl)} {d : Option Sl} : List.getD (x0 :: x1 :: x2 :: x3 :: x4 :: x5 :: x6 :: x7 :: l) 7 d = x7 := rfl
theorem st7 {x0 x1 x2 x3 x4 x5 x6 x7 v : Option Sl} {l : List (Option Sl)} : List.set (x0 :: x1 :: x2 :: x3 :: x4 :: x5 :: x6 :: x7 :: l) 7 v = x0 :: x1 :: x2 :: x3 :: x4 :: x5 :: x6 :: v :: l := rfl
theorem gd8 {x0 x1 x2 x3 x4 x5 x6 x7 x8 : Option Sl} {l : List (Option Sl)} {d : Option Sl} : List.getD (x0 :: x1 :: x2 :: x3 :: x4 :: x5 :: x6 :: x7 :: x8 :: l) 8 d = x8 := rfl
theorem st8 {x0 x1 x2 x3 x4 x5 x6 x7 x8 v : Option Sl} {l : List (Option Sl)} : List.set (x0 :: x1 :: x2 :: x3 :: x4 :: x5 :: x6 :: x7 :: x8 :: l) 8 v = x0 :: x1 :: x2 :: x3 :: x4 :: x5 :: x6 :: x7 :: v :: l := rfl
theorem gd9 {x0 x1 x2 x3 x4 x5 x6 x7 x8 x9 : Option Sl} {l : List (Option Sl)} {d : Option Sl} : List.getD (x0 :: x1 :: x2 :: x3 :: x4 :: x5 :: x6 :: x7 :: x8 :: x9 :: l) 9 d = x9 := rfl
theorem st9 {x0 x1 x2 x3 x4 x5 x6 x7 x8 x9 v : Option Sl} {l : List (Option Sl)} : List.set (x0 :: x1 :: x2 :: x3 :: x4 :: x5 :: x6 :: x7 :: x8 :: x9 :: l) 9 v = x0 :: x1 :: x2 :: x3 :: x4 :: x5 :: x6 :: x7 :: x8 :: v :: l := rfl
theorem gd10 {x0 x1 x2 x3 x4 x5 x6 x7 x8 x9 x10 : Option Sl} {l : List (Option Sl)} {d : Option Sl} : List.getD (x0 :: x1 :: x2 :: x3 :: x4 :: x5 :: x6 :: x7 :: x8 :: x9 :: x10 :: l) 10 d = x10 := rfl
theorem st10 {x0 x1 x2 x3 x4 x5 x6 x7 x8 x9 x10 v : Option Sl} {l : List (Option Sl)} : List.set (x0 :: x1 :: x2 :: x3 :: x4 :: x5 :: x6 :: x7 :: x8 :: x9 :: x10 :: l) 10 v = x0 :: x1 :: x2 :: x3 :: x4 :: x5 :: x6 :: x7 :: x8 :: x9 :: v :: l := rfl
theorem gd11 {x0 x1 x2 x3 x4 x5 x6 x7 x8 x9 x10 x11 : Option Sl} {l : List (Option Sl)} {d : Option Sl} : List.getD (x0 :: x1 :: x2 :: x3 :: x4 :: x5 :: x6 :: x7 :: x8 :: x9 :: x10 :: x11 :: l) 11 d = x11 := rfl
theorem st11 {x0 x1 x2 x3 x4 x5 x6 x7 x8 x9 x10 x11 v : Option Sl} {l : List (Option Sl)} : List.set (x0 :: x1 :: x2 :: x3 :: x4 :: x5 :: x6 :: x7 :: x8 :: x9 :: x10 :: x11 :: l) 11 v = x0 :: x1 :: x2 :: x3 :: x4 :: x5 :: x6 :: x7 :: x8 :: x9 :: x10 :: v :: l := rfl
theorem gd12 {x0 x1 x2 x3 x4 x5 x6 x7 x8 x9 x10 x11 x12 : Option Sl} {l : List (Option Sl)} {d : Option Sl} : List.getD (x0 :: x1 :: x2 :: x3 :: x4 :: x5 :: x6 :: x7 :: x8 :: x9 :: x10 :: x11 :: x12 :: l) 12 d = x12 := rfl
theorem st12 {x0 x1 x2 x3 x4 x5 x6 x7 x8 x9 x10 x11 x12 v : Option Sl} {l : List (Option Sl)} : List.set (x0 :: x1 :: x2 :: x3 :: x4 :: x5 :: x6 :: x7 :: x8 :: x9 :: x10 :: x11 :: x12 :: l) 12 v = x0 :: x1 :: x2 :: x3 :: x4 :: x5 :: x6 :: x7 :: x8 :: x9 :: x10 :: x11 :: v :: l := rfl
theorem gd13 {x0 x1 x2 x3 x4 x5 x6 x7 x8 x9 x10 x11 x12 x13 : Option Sl} {l : List (Option Sl)} {d : Option Sl} : List.getD (x0 :: x1 :: x2 :: x3 :: x4 :: x5 :: x6 :: x7 :: x8 :: x9 :: x10 :: x11 :: x12 :: x13 :: l) 13 d = x13 := rfl
theorem st13 {x0 x1 x2 x3 x4 x5 x6 x7 x8 x9 x10 x11 x12 x13 v : Option Sl} {l : List (Option Sl)} : List.set (x0 :: x1 :: x2 :: x3 :: x4 :: x5 :: x6 :: x7 :: x8 :: x9 :: x10 :: x11 :: x12 :: x13 :: l) 13 v = x0 :: x1 :: x2 :: x3 :: x4 :: x5 :: x6 :: x7 :: x8 :: x9 :: x10 :: x11 :: x12 :: v :: l := rfl
theorem gd14 {x0 x1 x2 x3 x4 x5 x6 x7 x8 x9 x10 x11 x12 x13 x14 : Option Sl} {l : List (Option Sl)} {d : Option Sl} : List.getD (x0 :: x1 :: x2 :: x3 :: x4 :: x5 :: x6 :: x7 :: x8 :: x9 :: x10 :: x11 :: x12 :: x13 :: x14 :: l) 14 d = x14 := rfl
theorem st14 {x0 x1 x2 x3 x4 x5 x6 x7 x8 x9 x10 x11 x12 x13 x14 v : Option Sl} {l : List (Option Sl)} : List.set (x0 :: x1 :: x2 :: x3 :: x4 :: x5 :: x6 :: x7 :: x8 :: x9 :: x10 :: x11 :: x12 :: x13 :: x14 :: l) 14 v = x0 :: x1 :: x2 :: x3 :: x4 :: x5 :: x6 :: x7 :: x8 :: x9 :: x10 :: x11 :: x12 :: x13 :: v :: l := rfl
theorem gd15 {x0 x1 x2 x3 x4 x5 x6 x7 x8 x9 x10 x11 x12 x13 x14 x15 : Option Sl} {l : List (Option Sl)} {d : Option Sl} : List.getD (x0 :: x1 :: x2 :: x3 :: x4 :: x5 :: x6 :: x7 :: x8 :: x9 :: x10 :: x11 :: x12 :: x13 :: x14 :: x15 :: l) 15 d = x15 := rfl
theorem st15 {x0 x1 x2 x3 x4 x5 x6 x7 x8 x9 x10 x11 x12 x13 x14 x15 v : Option Sl} {l : List (Option Sl)} : List.set (x0 :: x1 :: x2 :: x3 :: x4 :: x5 :: x6 :: x7 :: x8 :: x9 :: x10 :: x11 :: x12 :: x13 :: x14 :: x15 :: l) 15 v = x0 :: x1 :: x2 :: x3 :: x4 :: x5 :: x6 :: x7 :: x8 :: x9 :: x10 :: x11 :: x12 :: x13 :: x14 :: v :: l := rfl
theorem gd16 {x0 x1 x2 x3 x4 x5 x6 x7 x8 x9 x10 x11 x12 x13 x14 x15 x16 : Option Sl} {l : List (Option Sl)} {d : Option Sl} : List.getD (x0 :: x1 :: x2 :: x3 :: x4 :: x5 :: x6 :: x7 :: x8 :: x9 :: x10 :: x11 :: x12 :: x13 :: x14 :: x15 :: x16 :: l) 16 d = x16 := rfl
theorem st16 {x0 x1 x2 x3 x4 x5 x6 x7 x8 x9 x10 x11 x12 x13 x14 x15 x16 v : Option Sl} {l : List (Option Sl)} : List.set (x0 :: x1 :: x2 :: x3 :: x4 :: x5 :: x6 :: x7 :: x8 :: x9 :: x10 :: x11 :: x12 :: x13 :: x14 :: x15 :: x16 :: l) 16 v = x0 :: x1 :: x2 :: x3 :: x4 :: x5 :: x6 :: x7 :: x8 :: x9 :: x10 :: x11 :: x12 :: x13 :: x14 :: x15 :: v :: l := rfl
theorem gd17 {x0 x1 x2 x3 x4 x5 x6 x7 x8 x9 x10 x11 x12 x13 x14 x15 x16 x17 : Option Sl} {l : List (Option Sl)} {d : Option Sl} : List.getD (x0 :: x1 :: x2 :: x3 :: x4 :: x5 :: x6 :: x7 :: x8 :: x9 :: x10 :: x11 :: x12 :: x13 :: x14 :: x15 :: x16 :: x17 :: l) 17 d = x17 := rfl
theorem st17 {x0 x1 x2 x3 x4 x5 x6 x7 x8 x9 x10 x11 x12 x13 x14 x15 x16 x17 v : Option Sl} {l : List (Option Sl)} : List.set (x0 :: x1 :: x2 :: x3 :: x4 :: x5 :: x6 :: x7 :: x8 :: x9 :: x10 :: x11 :: x12 :: x13 :: x14 :: x15 :: x16 :: x17 :: l) 17 v = x0 :: x1 :: x2 :: x3 :: x4 :: x5 :: x6 :: x7 :: x8 :: x9 :: x10 :: x11 :: x12 :: x13 :: x14 :: x15 :: x16 :: v :: l := rfl
theorem gd18 {x0 x1 x2 x3 x4 x5 x6 x7 x8 x9 x10 x11 x12 x13 x14 x15 x16 x17 x18 : Option Sl} {l : List (Option Sl)} {d : Option Sl} : List.getD (x0 :: x1 :: x2 :: x3 :: x4 :: x5 :: x6 :: x7 :: x8 :: x9 :: x10 :: x11 :: x12 :: x13 :: x14 :: x15 :: x16 :: x17 :: x18 :: l) 18 d = x18 := rfl
theorem st18 {x0 x1 x2 x3 x4 x5 x6 x7 x8 x9 x10 x11 x12 x13 x14 x15 x16 x17 x18 v : Option Sl} {l : List (Option Sl)} : List.set (x0 :: x1 :: x2 :: x3 :: x4 :: x5 :: x6 :: x7 :: x8 :: x9 :: x10 :: x11 :: x12 :: x13 :: x14 :: x15 :: x16 :: x17 :: x18 :: l) 18 v = x0 :: x1 :: x2 :: x3 :: x4 :: x5 :: x6 :: x7 :: x8 :: x9 :: x10 :: x11 :: x12 :: x13 :: x14 :: x15 :: x16 :: x17 :: v :: l := rfl
theorem gd19 {x0 x1 x2 x3 x4 x5 x6 x7 x8 x9 x10 x11 x12 x13 x14 x15 x16 x17 x18 x19 : Option Sl} {l : List (Option Sl)} {d : Option Sl} : List.getD (x0 :: x1 :: x2 :: x3 :: x4 :: x5 :: x6 :: x7 :: x8 :: x9 :: x10 :: x11 :: x12 :: x13 :: x14 :: x15 :: x16 :: x17 :: x18 :: x19 :: l) 19 d = x19 := rfl
theorem st19 {x0 x1 x2 x3 x4 x5 x6 x7 x8 x9 x10 x11 x12 x13 x14 x15 x16 x17 x18 x19 v : Option Sl} {l : List (Option Sl)} : List.set (x0 :: x1 :: x2 :: x3 :: x4 :: x5 :: x6 :: x7 :: x8 :: x9 :: x10 :: x11 :: x12 :: x13 :: x14 :: x15 :: x16 :: x17 :: x18 :: x19 :: l) 19 v = x0 :: x1 :: x2 :: x3 :: x4 :: x5 :: x6 :: x7 :: x8 :: x9 :: x10 :: x11 :: x12 :: x13 :: x14 :: x15 :: x16 :: x17 :: x18 :: v :: l := rfl
theorem gd20 {x0 x1 x2 x3 x4 x5 x6 x7 x8 x9 x10 x11 x12 x13 x14 x15 x16 x17 x18 x19 x20 : Option Sl} {l : List (Option Sl)} {d : Option Sl} : List.getD (x0 :: x1 :: x2 :: x3 :: x4 :: x5 :: x6 :: x7 :: x8 :: x9 :: x10 :: x11 :: x12 :: x13 :: x14 :: x15 :: x16 :: x17 :: x18 :: x19 :: x20 :: l) 20 d = x20 := rfl
theorem st20 {x0 x1 x2 x3 x4 x5 x6 x7 x8 x9 x10 x11 x12 x13 x14 x15 x16 x17 x18 x19 x20 v : Option Sl} {l : List (Option Sl)} : List.set (x0 :: x1 :: x2 :: x3 :: x4 :: x5 :: x6 :: x7 :: x8 :: x9 :: x10 :: x11 :: x12 :: x13 :: x14 :: x15 :: x16 :: x17 :: x18 :: x19 :: x20 :: l) 20 v = x0 :: x1 :: x2 :: x3 :: x4 :: x5 :: x6 :: x7 :: x8 :: x9 :: x10 :: x11 :: x12 :: x13 :: x14 :: x15 :: x16 :: x17 :: x18 :: x19 :: v :: l := rfl
theorem gd21 {x0 x1 x2 x3 x4 x5 x6 x7 x8 x9 x10 x11 x12 x13 x14 x15 x16 x17 x18 x19 x20 x21 : Option Sl} {l : List (Option Sl)} {d : Option Sl} : List.getD (x0 :: x1 :: x2 :: x3 :: x4 :: x5 :: x6 :: x7 :: x8 :: x9 :: x10 :: x11 :: x12 :: x13 :: x14 :: x15 :: x16 :: x17 :: x18 :: x19 :: x20 :: x21 :: l) 21 d = x21 := rfl
theorem st21 {x0 x1 x2 x3 x4 x5 x6 x7 x8 x9 x10 x11 x12 x13 x14 x15 x16 x17 x18 x19 x20 x21 v : Option Sl} {l : List (Option Sl)} : List.set (x0 :: x1 :: x2 :: x3 :: x4 :: x5 :: x6 :: x7 :: x8 :: x9 :: x10 :: x11 :: x12 :: x13 :: x14 :: x15 :: x16 :: x17 :: x18 :: x19 :: x20 :: x21 :: l) 21 v = x0 :: x1 :: x2 :: x3 :: x4 :: x5 :: x6 :: x7 :: x8 :: x9 :: x10 :: x11 :: x12 :: x13 :: x14 :: x15 :: x16 :: x17 :: x18 :: x19 :: x20 :: v :: l := rfl
theorem gd22 {x0 x1 x2 x3 x4 x5 x6 x7 x8 x9 x10 x11 x12 x13 x14 x15 x16 x17 x18 x19 x20 x21 x22 : Option Sl} {l : List (Option Sl)} {d : Option Sl} : List.getD (x0 :: x1 :: x2 :: x3 :: x4 :: x5 :: x6 :: x7 :: x8 :: x9 :: x10 :: x11 :: x12 :: x13 :: x14 :: x15 :: x16 :: x17 :: x18 :: x19 :: x20 :: x21 :: x22 :: l) 22 d = x22 := rfl
theorem st22 {x0 x1 x2 x3 x4 x5 x6 x7 x8 x9 x10 x11 x12 x13 x14 x15 x16 x17 x18 x19 x20 x21 x22 v : Option Sl} {l : List (Option Sl)} : List.set (x0 :: x1 :: x2 :: x3 :: x4 :: x5 :: x6 :: x7 :: x8 :: x9 :: x10 :: x11 :: x12 :: x13 :: x14 :: x15 :: x16 :: x17 :: x18 :: x19 :: x20 :: x21 :: x22 :: l) 22 v = x0 :: x1 :: x2 :: x3 :: x4 :: x5 :: x6 :: x7 :: x8 :: x9 :: x10 :: x11 :: x12 :: x13 :: x14 :: x15 :: x16 :: x17 :: x18 :: x19 :: x20 :: x21 :: v :: l := rfl
theorem gd23 {x0 x1 x2 x3 x4 x5 x6 x7 x8 x9 x10 x11 x12 x13 x14 x15 x16 x17 x18 x19 x20 x21 x22 x23 : Option Sl} {l : List (Option Sl)} {d : Option Sl} : List.getD (x0 :: x1 :: x2 :: x3 :: x4 :: x5 :: x6 :: x7 :: x8 :: x9 :: x10 :: x11 :: x12 :: x13 :: x14 :: x15 :: x16 :: x17 :: x18 :: x19 :: x20 :: x21 :: x22 :: x23 :: l) 23 d = x23 := rfl
theorem st23 {x0 x1 x2 x3 x4 x5 x6 x7 x8 x9 x10 x11 x12 x13 x14 x15 x16 x17 x18 x19 x20 x21 x22 x23 v : Option Sl} {l : List (Option Sl)} : List.set (x0 :: x1 :: x2 :: x3 :: x4 :: x5 :: x6 :: x7 :: x8 :: x9 :: x10 :: x11 :: x12 :: x13 :: x14 :: x15 :: x16 :: x17 :: x18 :: x19 :: x20 :: x21 :: x22 :: x23 :: l) 23 v = x0 :: x1 :: x2 :: x3 :: x4 :: x5 :: x6 :: x7 :: x8 :: x9 :: x10 :: x11 :: x12 :: x13 :: x14 :: x15 :: x16 :: x17 :: x18 :: x19 :: x20 :: x21 :: x22 :: v :: l := rfl
theorem gd24 {x0 x1 x2 x3 x4 x5 x6 x7 x8 x9 x10 x11 x12 x13 x14 x15 x16 x17 x18 x19 x20 x21 x22 x23 x24 : Option Sl} {l : List (Option Sl)} {d : Option Sl} : List.getD (x0 :: x1 :: x2 :: x3 :: x4 :: x5 :: x6 :: x7 :: x8 :: x9 :: x10 :: x11 :: x12 :: x13 :: x14 :: x15 :: x16 :: x17 :: x18 :: x19 :: x20 :: x21 :: x22 :: x23 :: x24 :: l) 24 d = x24 := rfl
theorem st24 {x0 x1 x2 x3 x4 x5 x6 x7 x8 x9 x10 x11 x12 x13 x14 x15 x16 x17 x18 x19 x20 x21 x22 x23 x24 v : Option Sl} {l : List (Option Sl)} : List.set (x0 :: x1 :: x2 :: x3 :: x4 :: x5 :: x6 :: x7 :: x8 :: x9 :: x10 :: x11 :: x12 :: x13 :: x14 :: x15 :: x16 :: x17 :: x18 :: x19 :: x20 :: x21 :: x22 :: x23 :: x24 :: l) 24 v = x0 :: x1 :: x2 :: x3 :: x4 :: x5 :: x6 :: x7 :: x8 :: x9 :: x10 :: x11 :: x12 :: x13 :: x14 :: x15 :: x16 :: x17 :: x18 :: x19 :: x20 :: x21 :: x22 :: x23 :: v :: l := rfl
theorem gd25 {x0 x1 x2 x3 x4 x5 x6 x7 x8 x9 x10 x11 x12 x13 x14 x15 x16 x17 x18 x19 x20 x21 x22 x23 x24 x25 : Option Sl} {l : List (Option Sl)} {d : Option Sl} : List.getD (x0 :: x1 :: x2 :: x3 :: x4 :: x5 :: x6 :: x7 :: x8 :: x9 :: x10 :: x11 :: x12 :: x13 :: x14 :: x15 :: x16 :: x17 :: x18 :: x19 :: x20 :: x21 :: x22 :: x23 :: x24 :: x25 :: l) 25 d = x25 := rfl
theorem st25 {x0 x1 x2 x3 x4 x5 x6 x7 x8 x9 x10 x11 x12 x13 x14 x15 x16 x17 x18 x19 x20 x21 x22 x23 x24 x25 v : Option Sl} {l : List (Option Sl)} : List.set (x0 :: x1 :: x2 :: x3 :: x4 :: x5 :: x6 :: x7 :: x8 :: x9 :: x10 :: x11 :: x12 :: x13 :: x14 :: x15 :: x16 :: x17 :: x18 :: x19 :: x20 :: x21 :: x22 :: x23 :: x24 :: x25 :: l) 25 v = x0 :: x1 :: x2 :: x3 :: x4 :: x5 :: x6 :: x7 :: x8 :: x9 :: x10 :: x11 :: x12 :: x13 :: x14 :: x15 :: x16 :: x17 :: x18 :: x19 :: x20 :: x21 :: x22 :: x23 :: x24 :: v :: l := rfl
theorem gd26 {x0 x1 x2 x3 x4 x5 x6 x7 x8 x9 x10 x11 x12 x13 x14 x15 x16 x17 x18 x19 x20 x21 x22 x23 x24 x25 x26 : Option Sl} {l : List (Option Sl)} {d : Option Sl} : List.getD (x0 :: x1 :: x2 :: x3 :: x4 :: x5 :: x6 :: x7 :: x8 :: x9 :: x10 :: x11 :: x12 :: x13 :: x14 :: x15 :: x16 :: x17 :: x18 :: x19 :: x20 :: x21 :: x22 :: x23 :: x24 :: x25 :: x26 :: l) 26 d = x26 := rfl
theorem st26 {x0 x1 x2 x3 x4 x5 x6 x7 x8 x9 x10 x11 x12 x13 x14 x15 x16 x17 x18 x19 x20 x21 x22 x23 x24 x25 x26 v : Option Sl} {l : List (Option Sl)} : List.set (x0 :: x1 :: x2 :: x3 :: x4 :: x5 :: x6 :: x7 :: x8 :: x9 :: x10 :: x11 :: x12 :: x13 :: x14 :: x15 :: x16 :: x17 :: x18 :: x19 :: x20 :: x21 :: x22 :: x23 :: x24 :: x25 :: x26 :: l) 26 v = x0 :: x1 :: x2 :: x3 :: x4 :: x5 :: x6 :: x7 :: x8 :: x9 :: x10 :: x11 :: x12 :: x13 :: x14 :: x15 :: x16 :: x17 :: x18 :: x19 :: x20 :: x21 :: x22 :: x23 :: x24 :: x25 :: v :: l := rfl
theorem gd27 {x0 x1 x2 x3 x4 x5 x6 x7 x8 x9 x10 x11 x12 x13 x14 x15 x16 x17 x18 x19 x20 x21 x22 x23 x24 x25 x26 x27 : Option Sl} {l : List (Option Sl)} {d : Option Sl} : List.getD (x0 :: x1 :: x2 :: x3 :: x4 :: x5 :: x6 :: x7 :: x8 :: x9 :: x10 :: x11 :: x12 :: x13 :: x14 :: x15 :: x16 :: x17 :: x18 :: x19 :: x20 :: x21 :: x22 :: x23 :: x24 :: x25 :: x26 :: x27 :: l) 27 d = x27 := rfl
theorem st27 {x0 x1 x2 x3 x4 x5 x6 x7 x8 x9 x10 x11 x12 x13 x14 x15 x16 x17 x18 x19 x20 x21 x22 x23 x24 x25 x26 x27 v : Option Sl} {l : List (Option Sl)} : List.set (x0 :: x1 :: x2 :: x3 :: x4 :: x5 :: x6 :: x7 :: x8 :: x9 :: x10 :: x11 :: x12 :: x13 :: x14 :: x15 :: x16 :: x17 :: x18 :: x19 :: x20 :: x21 :: x22 :: x23 :: x24 :: x25 :: x26 :: x27 :: l) 27 v = x0 :: x1 :: x2 :: x3 :: x4 :: x5 :: x6 :: x7 :: x8 :: x9 :: x10 :: x11 :: x12 :: x13 :: x14 :: x15 :: x16 :: x17 :: x18 :: x19 :: x20 :: x21 :: x22 :: x23 :: x24 :: x25 :: x26 :: v :: l := rfl
theorem gd28 {x0 x1 x2 x3 x4 x5 x6 x7 x8 x9 x10 x11 x12 x13 x14 x15 x16 x17 x18 x19 x20 x21 x22 x23 x24 x25 x26 x27 x28 : Option Sl} {l : List (Option Sl)} {d : Option Sl} : List.getD (x0 :: x1 :: x2 :: x3 :: x4 :: x5 :: x6 :: x7 :: x8 :: x9 :: x10 :: x11 :: x12 :: x13 :: x14 :: x15 :: x16 :: x17 :: x18 :: x19 :: x20 :: x21 :: x22 :: x23 :: x24 :: x25 :: x26 :: x27 :: x28 :: l) 28 d = x28 := rfl
theorem st28 {x0 x1 x2 x3 x4 x5 x6 x7 x8 x9 x10 x11 x12 x13 x14 x15 x16 x17 x18 x19 x20 x21 x22 x23 x24 x25 x26 x27 x28 v : Option Sl} {l : List (Option Sl)} : List.set (x0 :: x1 :: x2 :: x3 :: x4 :: x5 :: x6 :: x7 :: x8 :: x9 :: x10 :: x11 :: x12 :: x13 :: x14 :: x15 :: x16 :: x17 :: x18 :: x19 :: x20 :: x21 :: x22 :: x23 :: x24 :: x25 :: x26 :: x27 :: x28 :: l) 28 v = x0 :: x1 :: x2 :: x3 :: x4 :: x5 :: x6 :: x7 :: x8 :: x9 :: x10 :: x11 :: x12 :: x13 :: x14 :: x15 :: x16 :: x17 :: x18 :: x19 :: x20 :: x21 :: x22 :: x23 :: x24 :: x25 :: x26 :: x27 :: v :: l := rfl
theorem gd29 {x0 x1 x2 x3 x4 x5 x6 x7 x8 x9 x10 x11 x12 x13 x14 x15 x16 x17 x18 x19 x20 x21 x22 x23 x24 x25 x26 x27 x28 x29 : Option Sl} {l : List (Option Sl)} {d : Option Sl} : List.getD (x0 :: x1 :: x2 :: x3 :: x4 :: x5 :: x6 :: x7 :: x8 :: x9 :: x10 :: x11 :: x12 :: x13 :: x14 :: x15 :: x16 :: x17 :: x18 :: x19 :: x20 :: x21 :: x22 :: x23 :: x24 :: x25 :: x26 :: x27 :: x28 :: x29 :: l) 29 d = x29 := rfl
theorem st29 {x0 x1 x2 x3 x4 x5 x6 x7 x8 x9 x10 x11 x12 x13 x14 x15 x16 x17 x18 x19 x20 x21 x22 x23 x24 x25 x26 x27 x28 x29 v : Option Sl} {l : List (Option Sl)} : List.set (x0 :: x1 :: x2 :: x3 :: x4 :: x5 :: x6 :: x7 :: x8 :: x9 :: x10 :: x11 :: x12 :: x13 :: x14 :: x15 :: x16 :: x17 :: x18 :: x19 :: x20 :: x21 :: x22 :: x23 :: x24 :: x25 :: x26 :: x27 :: x28 :: x29 :: l) 29 v = x0 :: x1 :: x2 :: x3 :: x4 :: x5 :: x6 :: x7 :: x8 :: x9 :: x10 :: x11 :: x12 :: x13 :: x14 :: x15 :: x16 :: x17 :: x18 :: x19 :: x20 :: x21 :: x22 :: x23 :: x24 :: x25 :: x26 :: x27 :: x28 :: v :: l := rfl
theorem ge0 {x0 : α} {l : List α} : (x0 :: l)[0]? = some x0 := rfl
theorem sa0 {x0 v : Sl} {l : List Sl} : List.set (x0 :: l) 0 v = v :: l := rfl
theorem ge1 {x0 x1 : α} {l : List α} : (x0 :: x1 :: l)[1]? = some x1 := rfl
theorem sa1 {x0 x1 v : Sl} {l : List Sl} : List.set (x0 :: x1 :: l) 1 v = x0 :: v :: l := rfl
theorem ge2 {x0 x1 x2 : α} {l : List α} : (x0 :: x1 :: x2 :: l)[2]? = some x2 := rfl
theorem sa2 {x0 x1 x2 v : Sl} {l : List Sl} : List.set (x0 :: x1 :: x2 :: l) 2 v = x0 :: x1 :: v :: l := rfl
theorem ge3 {x0 x1 x2 x3 : α} {l : List α} : (x0 :: x1 :: x2 :: x3 :: l)[3]? = some x3 := rfl
theorem sa3 {x0 x1 x2 x3 v : Sl} {l : List Sl} : List.set (x0 :: x1 :: x2 :: x3 :: l) 3 v = x0 :: x1 :: x2 :: v :: l := rfl
theorem ge4 {x0 x1 x2 x3 x4 : α} {l : List α} : (x0 :: x1 :: x2 :: x3 :: x4 :: l)[4]? = some x4 := rfl
theorem sa4 {x0 x1 x2 x3 x4 v : Sl} {l : List Sl} : List.set (x0 :: x1 :: x2 :: x3 :: x4 :: l) 4 v = x0 :: x1 :: x2 :: x3 :: v :: l := rfl
theorem ge5 {x0 x1 x2 x3 x4 x5 : α} {l : List α} : (x0 :: x1 :: x2 :: x3 :: x4 :: x5 :: l)[5]? = some x5 := rfl
theorem sa5 {x0 x1 x2 x3 x4 x5 v : Sl} {l : List Sl} : List.set (x0 :: x1 :: x2 :: x3 :: x4 :: x5 :: l) 5 v = x0 :: x1 :: x2 :: x3 :: x4 :: v :: l := rfl
theorem ge6 {x0 x1 x2 x3 x4 x5 x6 : α} {l : List α} : (x0 :: x1 :: x2 :: x3 :: x4 :: x5 :: x6 :: l)[6]? = some x6 := rfl
theorem sa6 {x0 x1 x2 x3 x4 x5 x6 v : Sl} {l : List Sl} : List.set (x0 :: x1 :: x2 :: x3 :: x4 :: x5 :: x6 :: l) 6 v = x0 :: x1 :: x2 :: x3 :: x4 :: x5 :: v :: l := rfl
theorem ge7 {x0 x1 x2 x3 x4 x5 x6 x7 : α} {l : List α} : (x0 :: x1 :: x2 :: x3 :: x4 :: x5 :: x6 :: x7 :: l)[7]? = some x7 := rfl
theorem sa7 {x0 x1 x2 x3 x4 x5 x6 x7 v : Sl} {l : List Sl} : List.set (x0 :: x1 :: x2 :: x3 :: x4 :: x5 :: x6 :: x7 :: l) 7 v = x0 :: x1 :: x2 :: x3 :: x4 :: x5 :: x6 :: v :: l := rfl
theorem ge8 {x0 x1 x2 x3 x4 x5 x6 x7 x8 : α} {l : List α} : (x0 :: x1 :: x2 :: x3 :: x4 :: x5 :: x6 :: x7 :: x8 :: l)[8]? = some x8 := rfl
theorem sa8 {x0 x1 x2 x3 x4 x5 x6 x7 x8 v : Sl} {l : List Sl} : List.set (x0 :: x1 :: x2 :: x3 :: x4 :: x5 :: x6 :: x7 :: x8 :: l) 8 v = x0 :: x1 :: x2 :: x3 :: x4 :: x5 :: x6 :: x7 :: v :: l := rfl
theorem ge9 {x0 x1 x2 x3 x4 x5 x6 x7 x8 x9 : α} {l : List α} : (x0 :: x1 :: x2 :: x3 :: x4 :: x5 :: x6 :: x7 :: x8 :: x9 :: l)[9]? = some x9 := rfl
theorem sa9 {x0 x1 x2 x3 x4 x5 x6 x7 x8 x9 v : Sl} {l : List Sl} : List.set (x0 :: x1 :: x2 :: x3 :: x4 :: x5 :: x6 :: x7 :: x8 :: x9 :: l) 9 v = x0 :: x1 :: x2 :: x3 :: x4 :: x5 :: x6 :: x7 :: x8 :: v :: l := rfl
theorem slb_t' {s : Sl} : slb env (.t s) = s.sub [] := rfl
theorem slb_b0'R {i : Nat} : slb env (.b i []) = bd0 (env.getD i none) fun s => s.sub [] := by show (env.getD i none).bind _ = _; cases env.getD i none <;> rfl
theorem slb_b0' {i : Nat} : slb env (.b i []) = bd (env.getD i none) (fun s => s.sub []) wt := by
  refine Eq.trans (slb_b0'R) ?_
  (try simp only [bif_c])
  (try simp only [gu_if])
  (try rfl)
theorem slb_bnR {i n : Nat} {π : List Nat} : slb env (.b i (n :: π)) = bd0 (env.getD i none) fun s => s.sub (n :: π) := by show (env.getD i none).bind _ = _; cases env.getD i none <;> rfl
theorem slb_bn {i n : Nat} {π : List Nat} : slb env (.b i (n :: π)) = bd (env.getD i none) (fun s => s.sub (n :: π)) wt := by
  refine Eq.trans (slb_bnR) ?_
  (try simp only [bif_c])
  (try simp only [gu_if])
  (try rfl)
theorem sub_s0 {p : PV} : (Sl.sh p).sub [] = some (.sh p) := rfl
theorem sub_o0 {xs : List PV} : (Sl.own xs).sub [] = some (.own xs) := rfl
theorem sub_n0 {xs : List Sl} : (Sl.nst xs).sub [] = some (.nst xs) := rfl
theorem sub_d0 {t : Nat} {xs : List (PV × PV)} : (Sl.dct t xs).sub [] = some (.dct t xs) := rfl
theorem sub_i0 {c : Str} {ns : List Str} {xs : List Sl} : (Sl.ins c ns xs).sub [] = some (.ins c ns xs) := rfl
theorem sub_nstR {xs : List Sl} {n : Nat} {π : List Nat} : (Sl.nst xs).sub (n :: π) = bd0 (xs[n]?) fun s => s.sub π := by show (xs[n]?).bind _ = _; cases xs[n]? <;> rfl
theorem sub_nst {xs : List Sl} {n : Nat} {π : List Nat} : (Sl.nst xs).sub (n :: π) = bd (xs[n]?) (fun s => s.sub π) wt := by
  refine Eq.trans (sub_nstR) ?_
  (try simp only [bif_c])
  (try simp only [gu_if])
  (try rfl)
theorem sub_insR {c : Str} {ns : List Str} {xs : List Sl} {n : Nat} {π : List Nat} : (Sl.ins c ns xs).sub (n :: π) = bd0 (xs[n]?) fun s => s.sub π := by show (xs[n]?).bind _ = _; cases xs[n]? <;> rfl
theorem sub_ins {c : Str} {ns : List Str} {xs : List Sl} {n : Nat} {π : List Nat} : (Sl.ins c ns xs).sub (n :: π) = bd (xs[n]?) (fun s => s.sub π) wt := by
  refine Eq.trans (sub_insR) ?_
  (try simp only [bif_c])
  (try simp only [gu_if])
  (try rfl)
theorem put_0 {s t : Sl} : s.put [] t = t := by cases s <;> rfl
noncomputable def putL (xs : List Sl) (n : Nat) (π : List Nat) (t : Sl) : List Sl := match xs[n]? with | some s => xs.set n (s.put π t) | none => xs
theorem put_nst {xs : List Sl} {n : Nat} {π : List Nat} {t : Sl} : (Sl.nst xs).put (n :: π) t = .nst (putL xs n π t) := rfl
theorem put_ins {c : Str} {ns : List Str} {xs : List Sl} {n : Nat} {π : List Nat} {t : Sl} : (Sl.ins c ns xs).put (n :: π) t = .ins c ns (putL xs n π t) := rfl
theorem putL0 {x0 t : Sl} {l : List Sl} {π : List Nat} : putL (x0 :: l) 0 π t = x0.put π t :: l := rfl
theorem putL1 {x0 x1 t : Sl} {l : List Sl} {π : List Nat} : putL (x0 :: x1 :: l) 1 π t = x0 :: x1.put π t :: l := rfl
theorem putL2 {x0 x1 x2 t : Sl} {l : List Sl} {π : List Nat} : putL (x0 :: x1 :: x2 :: l) 2 π t = x0 :: x1 :: x2.put π t :: l := rfl
theorem putL3 {x0 x1 x2 x3 t : Sl} {l : List Sl} {π : List Nat} : putL (x0 :: x1 :: x2 :: x3 :: l) 3 π t = x0 :: x1 :: x2 :: x3.put π t :: l := rfl
theorem putL4 {x0 x1 x2 x3 x4 t : Sl} {l : List Sl} {π : List Nat} : putL (x0 :: x1 :: x2 :: x3 :: x4 :: l) 4 π t = x0 :: x1 :: x2 :: x3 :: x4.put π t :: l := rfl
theorem putL5 {x0 x1 x2 x3 x4 x5 t : Sl} {l : List Sl} {π : List Nat} : putL (x0 :: x1 :: x2 :: x3 :: x4 :: x5 :: l) 5 π t = x0 :: x1 :: x2 :: x3 :: x4 :: x5.put π t :: l := rfl
theorem putL6 {x0 x1 x2 x3 x4 x5 x6 t : Sl} {l : List Sl} {π : List Nat} : putL (x0 :: x1 :: x2 :: x3 :: x4 :: x5 :: x6 :: l) 6 π t = x0 :: x1 :: x2 :: x3 :: x4 :: x5 :: x6.put π t :: l := rfl
theorem putL7 {x0 x1 x2 x3 x4 x5 x6 x7 t : Sl} {l : List Sl} {π : List Nat} : putL (x0 :: x1 :: x2 :: x3 :: x4 :: x5 :: x6 :: x7 :: l) 7 π t = x0 :: x1 :: x2 :: x3 :: x4 :: x5 :: x6 :: x7.put π t :: l := rfl
theorem putL8 {x0 x1 x2 x3 x4 x5 x6 x7 x8 t : Sl} {l : List Sl} {π : List Nat} : putL (x0 :: x1 :: x2 :: x3 :: x4 :: x5 :: x6 :: x7 :: x8 :: l) 8 π t = x0 :: x1 :: x2 :: x3 :: x4 :: x5 :: x6 :: x7 :: x8.put π t :: l := rfl
theorem putL9 {x0 x1 x2 x3 x4 x5 x6 x7 x8 x9 t : Sl} {l : List Sl} {π : List Nat} : putL (x0 :: x1 :: x2 :: x3 :: x4 :: x5 :: x6 :: x7 :: x8 :: x9 :: l) 9 π t = x0 :: x1 :: x2 :: x3 :: x4 :: x5 :: x6 :: x7 :: x8 :: x9.put π t :: l := rfl
noncomputable def setQ (env : PEnv) (i : Nat) (π : List Nat) (t : Sl) : Option Sl → PEnv
  | some s => env.set i (some (s.put π t))
  | none => env
theorem setP_q {i : Nat} {π : List Nat} {t : Sl} : setP env i π t = setQ env i π t (env.getD i none) := by unfold setP; cases env.getD i none <;> rfl
theorem setQ_s {i : Nat} {π : List Nat} {s t : Sl} : setQ env i π t (some s) = env.set i (some (s.put π t)) := rfl
theorem gd_t {s : Sl} {c : Bool} : gd (.t s) c = true := rfl
theorem gd_b0 {i : Nat} {c : Bool} : gd (.b i []) c = true := rfl
theorem gd_bn {i n : Nat} {π : List Nat} {c : Bool} : gd (.b i (n :: π)) c = c := rfl
noncomputable def stO : Option Sl → Bool
  | some s => s.strict
  | none => false
theorem stB_q {x : Bw} : stB env x = stO (slb env x) := by unfold stB; cases slb env x <;> rfl
theorem stO_sh {p : PV} : stO (some (.sh p)) = true := rfl
theorem stO_own {p : List PV} : stO (some (.own p)) = true := rfl
theorem stO_dct {t : Nat} {p : List (PV × PV)} : stO (some (.dct t p)) = true := rfl
theorem stBs_nil : stBs env [] = true := rfl
theorem stBs_cons {x : Bw} {xs : List Bw} : stBs env (x :: xs) = (stB env x && stBs env xs) := rfl
theorem pv_sh' {p : PV} : (Sl.sh p).pv = p := by rw [Sl.pv]
theorem pv_own' {p : List PV} : (Sl.own p).pv = .lst p := by rw [Sl.pv]
theorem pv_nst' {p : List Sl} : (Sl.nst p).pv = .lst (Sl.pvs p) := by rw [Sl.pv]
theorem pv_dct' {t : Nat} {p : List (PV × PV)} : (Sl.dct t p).pv = .dct t p := by rw [Sl.pv]
theorem pv_ins' {c : Str} {ns : List Str} {p : List Sl} : (Sl.ins c ns p).pv = .obj c ns (Sl.pvs p) := by rw [Sl.pv]
theorem pvs_nil' : Sl.pvs [] = [] := by rw [Sl.pvs]
theorem pvs_cons' {s : Sl} {ss : List Sl} : Sl.pvs (s :: ss) = s.pv :: Sl.pvs ss := by rw [Sl.pvs]
theorem pvb_sh {p : PV} : pvb env (.t (.sh p)) = some p := by show some (Sl.pv _) = _; rw [Sl.pv]
theorem pvb_tR {s : Sl} : pvb env (.t s) = bd0 (s.sub []) fun s => some s.pv := by show (s.sub []).map _ = _; cases s.sub [] <;> rfl
theorem pvb_t {s : Sl} : pvb env (.t s) = bd (s.sub []) (fun s => some s.pv) wt := by
  refine Eq.trans (pvb_tR) ?_
  (try simp only [bif_c])
  (try simp only [gu_if])
  (try rfl)
theorem pvb_bR {i : Nat} {π : List Nat} : pvb env (.b i π) = bd0 (slb env (.b i π)) fun s => some s.pv := by unfold pvb; cases slb env (.b i π) <;> rfl
theorem pvb_b {i : Nat} {π : List Nat} : pvb env (.b i π) = bd (slb env (.b i π)) (fun s => some s.pv) wt := by
  refine Eq.trans (pvb_bR) ?_
  (try simp only [bif_c])
  (try simp only [gu_if])
  (try rfl)
theorem pvbs_nil : pvbs env [] = some [] := rfl
theorem pvbs_consR {x : Bw} {xs : List Bw} : pvbs env (x :: xs) = bd0 (pvb env x) fun p => bd0 (pvbs env xs) fun ps => some (p :: ps) := by rw [pvbs]; simp only [bind1, map1]
theorem pvbs_cons {x : Bw} {xs : List Bw} : pvbs env (x :: xs) = bd (pvb env x) (fun p => bd (pvbs env xs) (fun ps => some (p :: ps)) wt) wt := by
  refine Eq.trans (pvbs_consR) ?_
  (try simp only [bif_c])
  (try simp only [gu_if])
  (try rfl)
theorem fix_t {s : Sl} : fix env (.t s) = some (s.pv, env) := rfl
theorem fix_bR {i : Nat} {π : List Nat} : fix env (.b i π) = bd0 (slb env (.b i π)) fun s => some (s.pv, setP env i π (.sh s.pv)) := by show (slb env (.b i π)).map _ = _; rw [map1]
theorem fix_b {i : Nat} {π : List Nat} : fix env (.b i π) = bd (slb env (.b i π)) (fun s => some (s.pv, setP env i π (.sh s.pv))) wt := by
  refine Eq.trans (fix_bR) ?_
  (try simp only [bif_c])
  (try simp only [gu_if])
  (try rfl)
theorem fixs_nil : fixs env [] = some ([], env) := rfl
theorem fixs_consR {x : Bw} {xs : List Bw} : fixs env (x :: xs) = bd20 (fix env x) fun p e => bd20 (fixs e xs) fun ps e2 => some (p :: ps, e2) := by rw [fixs]; simp only [bind2, map2]
theorem fixs_cons {x : Bw} {xs : List Bw} : fixs env (x :: xs) = bd2 (fix env x) (fun p e => bd2 (fixs e xs) (fun ps e2 => some (p :: ps, e2)) wt) wt := by
  refine Eq.trans (fixs_consR) ?_
  (try simp only [bif_c])
  (try simp only [gu_if])
  (try rfl)
theorem fixO_t {s : Sl} : fixO env (.t s) = some (s, env) := rfl
theorem fixO_bR {i : Nat} {π : List Nat} : fixO env (.b i π) = bd0 (slb env (.b i π)) fun s => some (.sh s.pv, setP env i π (.sh s.pv)) := by show (slb env (.b i π)).map _ = _; rw [map1]
theorem fixO_b {i : Nat} {π : List Nat} : fixO env (.b i π) = bd (slb env (.b i π)) (fun s => some (.sh s.pv, setP env i π (.sh s.pv))) wt := by
  refine Eq.trans (fixO_bR) ?_
  (try simp only [bif_c])
  (try simp only [gu_if])
  (try rfl)
theorem fixR_t {l : List Nat} {s : Sl} : fixR l env (.t s) = some (s, env) := rfl
theorem fixR_b0R {i : Nat} : fixR [] env (.b i []) = bd0 (env.getD i none) fun s => some (s, env.set i none) := by show (env.getD i none).map _ = _; rw [map1]
theorem fixR_b0 {i : Nat} : fixR [] env (.b i []) = bd (env.getD i none) (fun s => some (s, env.set i none)) wt := by
  refine Eq.trans (fixR_b0R) ?_
  (try simp only [bif_c])
  (try simp only [gu_if])
  (try rfl)
theorem fixR_bn {l : List Nat} {i n : Nat} {π : List Nat} : fixR l env (.b i (n :: π)) = fixO env (.b i (n :: π)) := rfl
theorem sflat_sh {p : PV} : (Sl.sh p).flat = p.flat := by rw [Sl.flat]
theorem sflat_tpl {hs xs ps : List PV} : (Sl.tpl hs xs ps).flat = (PV.flats hs && (PV.flats xs && PV.flats ps)) := by rw [Sl.flat]
theorem sflat_own {p : List PV} : (Sl.own p).flat = PV.flats p := by rw [Sl.flat]
theorem sflat_ins {c : Str} {ns : List Str} {p : List Sl} : (Sl.ins c ns p).flat = Sl.flats p := by rw [Sl.flat]
theorem sflat_nst {p : List Sl} : (Sl.nst p).flat = Sl.flats p := by rw [Sl.flat]
theorem sflats_nil : Sl.flats [] = true := by rw [Sl.flats]
theorem sflats_cons {s : Sl} {p : List Sl} : Sl.flats (s :: p) = (s.flat && Sl.flats p) := by rw [Sl.flats]
theorem flat_non : PV.flat .non = true := by rw [PV.flat]
theorem flat_bl {b : Bool} : PV.flat (.bl b) = true := by rw [PV.flat]
theorem flat_int {b : Int} : PV.flat (.int b) = true := by rw [PV.flat]
theorem flat_str {b : Str} : PV.flat (.str b) = true := by rw [PV.flat]
theorem flat_tup {xs : List PV} : PV.flat (.tup xs) = PV.flats xs := by rw [PV.flat]
theorem flat_lst {xs : List PV} : PV.flat (.lst xs) = false := by rw [PV.flat]
theorem flat_dct {t : Nat} {xs : List (PV × PV)} : PV.flat (.dct t xs) = false := by rw [PV.flat]
theorem flat_obj {c : Str} {ns : List Str} {xs : List PV} : PV.flat (.obj c ns xs) = false := by rw [PV.flat]
theorem flat_exc {c f : Str} {p : PV} : PV.flat (.exc c f p) = false := by rw [PV.flat]
theorem flats_nil : PV.flats [] = true := by rw [PV.flats]
theorem flats_cons {p : PV} {ps : List PV} : PV.flats (p :: ps) = (p.flat && PV.flats ps) := by rw [PV.flats]
theorem flats_app {ps qs : List PV} : PV.flats (ps ++ qs) = (PV.flats ps && PV.flats qs) := by
  induction ps with
  | nil => simp [PV.flats]
  | cons p ps ih => simp [PV.flats, ih, Bool.and_assoc]
noncomputable def callR (s : Sl) (xs : List Bw) (e : PEnv) : Option (Bw × PEnv) := if s.flat = true then some (.t s, e) else bd20 (fixs e xs) fun _ e2 => some (.t s, e2)
theorem callR_nil {s : Sl} : callR s [] env = some (.t s, env) := by unfold callR; split <;> rfl
theorem callR_t {s a : Sl} {xs : List Bw} : callR s (.t a :: xs) env = callR s xs env := by
  unfold callR
  split
  · rfl
  · rw [fixs_consR, fix_t]
    simp only [bd20]
    rcases fixs env xs with _ | ⟨a, b⟩ <;> rfl
theorem callR_bR {s : Sl} {i : Nat} {π : List Nat} {xs : List Bw} : callR s (.b i π :: xs) env = if s.flat = true then some (.t s, env) else bd20 (fixs env (.b i π :: xs)) fun _ e2 => some (.t s, e2) := rfl
theorem callR_b {s : Sl} {i : Nat} {π : List Nat} {xs : List Bw} : callR s (.b i π :: xs) env = cond (s.flat) (some (.t s, env)) (bd2 (fixs env (.b i π :: xs)) (fun _ e2 => some (.t s, e2)) wt) := by
  refine Eq.trans (callR_bR) ?_
  (try simp only [bif_c])
  (try simp only [gu_if])
  (try rfl)
theorem y_non : ev F .non env = some (.t (.sh .non), env) := by (rw [ev]) <;> first | rfl | (simp only [bind2, map2]; done) | (simp only [bind2, map2]; rfl) | (simp only [bind2, map2]; simp only [bind1, map1])
theorem y_bl {b : Bool} : ev F (.bl b) env = some (.t (.sh (.bl b)), env) := by (rw [ev]) <;> first | rfl | (simp only [bind2, map2]; done) | (simp only [bind2, map2]; rfl) | (simp only [bind2, map2]; simp only [bind1, map1])
theorem y_int {b : Int} : ev F (.int b) env = some (.t (.sh (.int b)), env) := by (rw [ev]) <;> first | rfl | (simp only [bind2, map2]; done) | (simp only [bind2, map2]; rfl) | (simp only [bind2, map2]; simp only [bind1, map1])
theorem y_str {b : Str} : ev F (.str b) env = some (.t (.sh (.str b)), env) := by (rw [ev]) <;> first | rfl | (simp only [bind2, map2]; done) | (simp only [bind2, map2]; rfl) | (simp only [bind2, map2]; simp only [bind1, map1])
theorem y_glob {x : Str} {p : PV} : ev F (.glob x p) env = some (.t (.sh p), env) := by (rw [ev]) <;> first | rfl | (simp only [bind2, map2]; done) | (simp only [bind2, map2]; rfl) | (simp only [bind2, map2]; simp only [bind1, map1])
noncomputable def varV (i : Nat) (env : PEnv) : Option Sl → Option (Bw × PEnv)
  | some (.sh p) => some (.t (.sh p), env)
  | some _ => some (.b i [], env)
  | none => none
theorem y_var {i : Nat} : ev F (.var i) env = varV i env (env.getD i none) := by
  rw [ev]
  rcases env.getD i none with _ | s
  · rfl
  · cases s <;> rfl
theorem varV_own {i : Nat} {p : List PV} : varV i env (some (.own p)) = some (.b i [], env) := rfl
theorem varV_nst {i : Nat} {p : List Sl} : varV i env (some (.nst p)) = some (.b i [], env) := rfl
theorem varV_dct {i : Nat} {t : Nat} {p : List (PV × PV)} : varV i env (some (.dct t p)) = some (.b i [], env) := rfl
theorem varV_ins {i : Nat} {c : Str} {fs : List Str} {p : List Sl} : varV i env (some (.ins c fs p)) = some (.b i [], env) := rfl
theorem varV_tpl {i : Nat} {hs xs ps : List PV} : varV i env (some (.tpl hs xs ps)) = some (.b i [], env) := rfl
theorem varV_sh {i : Nat} {p : PV} : varV i env (some (.sh p)) = some (.t (.sh p), env) := rfl
theorem y_binR {op : Operator} {a b : E} : ev F (.bin op a b) env = bd20 (ev F a env) fun x e => if gd x (calmE b) = true then bd20 (ev F b e) fun y e2 => if (stB e2 x && stB e2 y) = true then bd0 (pvb e2 x) fun p => bd0 (pvb e2 y) fun q => bd0 (bin2 op p q) fun z => some (.t z, e2) else none else none := by (rw [ev]) <;> first | rfl | (simp only [bind2, map2]; done) | (simp only [bind2, map2]; rfl) | (simp only [bind2, map2]; simp only [bind1, map1])
theorem y_bin {op : Operator} {a b : E} : ev F (.bin op a b) env = bd2 (ev F a env) (fun x e => cond (gd x (calmE b)) (bd2 (ev F b e) (fun y e2 => cond ((stB e2 x && stB e2 y)) (bd (pvb e2 x) (fun p => bd (pvb e2 y) (fun q => bd (bin2 op p q) (fun z => some (.t z, e2)) wt) wt) wt) (none)) wt) (none)) wt := by
  refine Eq.trans (y_binR) ?_
  (try simp only [bif_c])
  (try simp only [gu_if])
  (try rfl)
theorem y_cmpR {op : CmpOp} {a b : E} : ev F (.cmp op a b) env = bd20 (ev F a env) fun x e => if gd x (calmE b) = true then bd20 (ev F b e) fun y e2 => bd0 (pvb e2 x) fun p => bd0 (pvb e2 y) fun q => bd0 (cmp2 op p q) fun z => some (.t (.sh (.bl z)), e2) else none := by (rw [ev]) <;> first | rfl | (simp only [bind2, map2]; done) | (simp only [bind2, map2]; rfl) | (simp only [bind2, map2]; simp only [bind1, map1])
theorem y_cmp {op : CmpOp} {a b : E} : ev F (.cmp op a b) env = bd2 (ev F a env) (fun x e => cond (gd x (calmE b)) (bd2 (ev F b e) (fun y e2 => bd (pvb e2 x) (fun p => bd (pvb e2 y) (fun q => bd (cmp2 op p q) (fun z => some (.t (.sh (.bl z)), e2)) wt) wt) wt) wt) (none)) wt := by
  refine Eq.trans (y_cmpR) ?_
  (try simp only [bif_c])
  (try simp only [gu_if])
  (try rfl)
theorem y_chainR {op op' : CmpOp} {a b c : E} : ev F (.chain op op' a b c) env = bd20 (ev F a env) fun x e => if gd x (calmE b && calmE c) = true then bd20 (ev F b e) fun y e2 => if gd y (calmE c) = true then bd0 (pvb e2 x) fun p => bd0 (pvb e2 y) fun q => bd0 (cmp2 op p q) fun z => if z = true then bd20 (ev F c e2) fun v e3 => bd0 (pvb e3 y) fun q' => bd0 (pvb e3 v) fun u => bd0 (cmp2 op' q' u) fun z' => some (.t (.sh (.bl z')), e3) else some (.t (.sh (.bl false)), e2) else none else none := by
  rw [ev]
  unfold fChain
  rcases ev F a env with _ | ⟨x, e⟩
  · rfl
  (try simp only [Option.bind_some, Option.bind_none, Option.map_some, Option.map_none, bd20, bd0])
  by_cases h1 : gd x (calmE b && calmE c) = true
  · rw [if_pos h1, if_pos h1]
    rcases ev F b e with _ | ⟨y, e2⟩
    · rfl
    (try simp only [Option.bind_some, Option.bind_none, Option.map_some, Option.map_none, bd20, bd0])
    by_cases h2 : gd y (calmE c) = true
    · rw [if_pos h2, if_pos h2]
      rcases pvb e2 x with _ | p
      · rfl
      rcases pvb e2 y with _ | q
      · rfl
      (try simp only [Option.bind_some, Option.bind_none, Option.map_some, Option.map_none, bd20, bd0])
      rcases cmp2 op p q with _ | z
      · rfl
      (try simp only [Option.bind_some, Option.bind_none, Option.map_some, Option.map_none, bd20, bd0])
      cases z
      · rfl
      · rw [if_pos rfl, if_pos rfl]
        rcases ev F c e2 with _ | ⟨v, e3⟩
        · rfl
        (try simp only [Option.bind_some, Option.bind_none, Option.map_some, Option.map_none, bd20, bd0])
        rcases pvb e3 y with _ | q'
        · rfl
        rcases pvb e3 v with _ | u
        · rfl
        (try simp only [Option.bind_some, Option.bind_none, Option.map_some, Option.map_none, bd20, bd0])
        rcases cmp2 op' q' u with _ | z' <;> rfl
    · rw [if_neg h2, if_neg h2] <;> rfl
  · rw [if_neg h1, if_neg h1] <;> rfl
theorem y_chain {op op' : CmpOp} {a b c : E} : ev F (.chain op op' a b c) env = bd2 (ev F a env) (fun x e => cond (gd x (calmE b && calmE c)) (bd2 (ev F b e) (fun y e2 => cond (gd y (calmE c)) (bd (pvb e2 x) (fun p => bd (pvb e2 y) (fun q => bd (cmp2 op p q) (fun z => cond (z) (bd2 (ev F c e2) (fun v e3 => bd (pvb e3 y) (fun q' => bd (pvb e3 v) (fun u => bd (cmp2 op' q' u) (fun z' => some (.t (.sh (.bl z')), e3)) wt) wt) wt) wt) (some (.t (.sh (.bl false)), e2))) wt) wt) wt) (none)) wt) (none)) wt := by
  refine Eq.trans (y_chainR) ?_
  (try simp only [bif_c])
  (try simp only [gu_if])
  (try rfl)
noncomputable def blO : PV → Option Bool
  | .bl b => some b
  | _ => none
noncomputable def intO : PV → Option Int
  | .int b => some b
  | _ => none
noncomputable def lstO : PV → Option (List PV)
  | .lst b => some b
  | _ => none
noncomputable def ownO : Sl → Option (List PV)
  | .own xs => some xs
  | _ => none
theorem O_bl {b : Bool} : blO (.bl b) = some b := rfl
theorem O_int {b : Int} : intO (.int b) = some b := rfl
theorem O_lst {b : List PV} : lstO (.lst b) = some b := rfl
theorem O_own {p : List PV} : ownO (.own p) = some p := rfl
theorem y_andR {a b : E} : ev F (.and a b) env = bd20 (ev F a env) fun x e => bd0 (pvb e x) fun p => bd0 (blO p) fun c => if c = true then ev F b e else some (.t (.sh (.bl false)), e) := by
  rw [ev]
  rcases ev F a env with _ | ⟨x, e⟩
  · rfl
  (try simp only [Option.bind_some, Option.bind_none, Option.map_some, Option.map_none, bd20, bd0])
  rcases pvb e x with _ | p
  · rfl
  cases p <;> first | rfl | (rename_i c; cases c <;> rfl)
theorem y_and {a b : E} : ev F (.and a b) env = bd2 (ev F a env) (fun x e => bd (pvb e x) (fun p => bd (blO p) (fun c => cond (c) (ev F b e) (some (.t (.sh (.bl false)), e))) wt) wt) wt := by
  refine Eq.trans (y_andR) ?_
  (try simp only [bif_c])
  (try simp only [gu_if])
  (try rfl)
theorem y_orR {a b : E} : ev F (.or a b) env = bd20 (ev F a env) fun x e => bd0 (pvb e x) fun p => bd0 (blO p) fun c => if c = true then some (.t (.sh (.bl true)), e) else ev F b e := by
  rw [ev]
  rcases ev F a env with _ | ⟨x, e⟩
  · rfl
  (try simp only [Option.bind_some, Option.bind_none, Option.map_some, Option.map_none, bd20, bd0])
  rcases pvb e x with _ | p
  · rfl
  cases p <;> first | rfl | (rename_i c; cases c <;> rfl)
theorem y_or {a b : E} : ev F (.or a b) env = bd2 (ev F a env) (fun x e => bd (pvb e x) (fun p => bd (blO p) (fun c => cond (c) (some (.t (.sh (.bl true)), e)) (ev F b e)) wt) wt) wt := by
  refine Eq.trans (y_orR) ?_
  (try simp only [bif_c])
  (try simp only [gu_if])
  (try rfl)
theorem y_notR {a : E} : ev F (.not a) env = bd20 (ev F a env) fun x e => bd0 (pvb e x) fun p => bd0 (truth p) fun c => some (.t (.sh (.bl (!c))), e) := by (rw [ev]) <;> first | rfl | (simp only [bind2, map2]; done) | (simp only [bind2, map2]; simp only [bind1, map1])
theorem y_not {a : E} : ev F (.not a) env = bd2 (ev F a env) (fun x e => bd (pvb e x) (fun p => bd (truth p) (fun c => some (.t (.sh (.bl (!c))), e)) wt) wt) wt := by
  refine Eq.trans (y_notR) ?_
  (try simp only [bif_c])
  (try simp only [gu_if])
  (try rfl)
theorem y_negR {a : E} : ev F (.neg a) env = bd20 (ev F a env) fun x e => bd0 (pvb e x) fun p => bd0 (intO p) fun c => some (.t (.sh (.int (-c))), e) := by
  rw [ev]
  rcases ev F a env with _ | ⟨x, e⟩
  · rfl
  (try simp only [Option.bind_some, Option.bind_none, Option.map_some, Option.map_none, bd20, bd0])
  rcases pvb e x with _ | p
  · rfl
  cases p <;> first | rfl | (rename_i c; cases c <;> rfl)
theorem y_neg {a : E} : ev F (.neg a) env = bd2 (ev F a env) (fun x e => bd (pvb e x) (fun p => bd (intO p) (fun c => some (.t (.sh (.int (-c))), e)) wt) wt) wt := by
  refine Eq.trans (y_negR) ?_
  (try simp only [bif_c])
  (try simp only [gu_if])
  (try rfl)
theorem y_ifeR {c : T} {a b : E} : ev F (.ife c a b) env = bd20 (evT F c env) fun t e => if t = true then ev F a e else ev F b e := by
  rw [ev]
  rcases evT F c env with _ | ⟨t, e⟩
  · rfl
  cases t <;> rfl
theorem y_ife {c : T} {a b : E} : ev F (.ife c a b) env = bd2 (evT F c env) (fun t e => cond (t) (ev F a e) (ev F b e)) wt := by
  refine Eq.trans (y_ifeR) ?_
  (try simp only [bif_c])
  (try simp only [gu_if])
  (try rfl)
noncomputable def ixS (x : Bw) (s : Sl) (y : PV) : Option Bw := match s with
  | .nst xs => bd0 (intO y) fun i => bd0 (ixN xs.length i) fun n => bd0 (xs[n]?) fun s => match s, x with
    | .sh p, _ => some (.t (.sh p))
    | _, .b i π => some (.b i (π ++ [n]))
    | _, .t _ => none
  | .ins _ _ _ => none
  | s => bd0 (ix2 s.pv y) fun p => some (.t (.sh p))
theorem ixB_S {x : Bw} {y : PV} : ixB env x y = bd0 (slb env x) fun s => ixS x s y := by
  unfold ixB ixS
  rcases slb env x with _ | s
  · cases y <;> rfl
  simp only [bd0]
  cases s with
  | nst xs =>
    cases y <;> try rfl
    rename_i i
    simp only [intO]
    rcases ixN xs.length i with _ | n
    · rfl
    (try simp only [Option.bind_some, Option.bind_none, Option.map_some, Option.map_none, bd20, bd0])
    rcases xs[n]? with _ | t
    · rfl
    (try simp only [Option.bind_some, Option.bind_none, Option.map_some, Option.map_none, bd20, bd0])
    all_goals (cases t <;> cases x <;> rfl)
  | ins c ns xs => cases y <;> rfl
  | _ => simp only [map1, bd0]
theorem y_ixR {a b : E} : ev F (.ix a b) env = bd20 (ev F a env) fun x e => if gd x (calmE b) = true then bd20 (ev F b e) fun y e2 => bd0 (pvb e2 y) fun q => bd0 (slb e2 x) fun s => bd0 (ixS x s q) fun z => some (z, e2) else none := by
  rw [ev]
  rcases ev F a env with _ | ⟨x, e⟩
  · rfl
  (try simp only [Option.bind_some, Option.bind_none, Option.map_some, Option.map_none, bd20, bd0])
  split
  · rcases ev F b e with _ | ⟨y, e2⟩
    · rfl
    (try simp only [Option.bind_some, Option.bind_none, Option.map_some, Option.map_none, bd20, bd0])
    rcases pvb e2 y with _ | q
    · rfl
    (try simp only [Option.bind_some, Option.bind_none, Option.map_some, Option.map_none, bd20, bd0])
    rw [ixB_S]
    rcases slb e2 x with _ | s
    · rfl
    (try simp only [Option.bind_some, Option.bind_none, Option.map_some, Option.map_none, bd20, bd0])
    cases ixS x s q <;> rfl
  · rfl
theorem y_ix {a b : E} : ev F (.ix a b) env = bd2 (ev F a env) (fun x e => cond (gd x (calmE b)) (bd2 (ev F b e) (fun y e2 => bd (pvb e2 y) (fun q => bd (slb e2 x) (fun s => bd (ixS x s q) (fun z => some (z, e2)) wt) wt) wt) wt) (none)) wt := by
  refine Eq.trans (y_ixR) ?_
  (try simp only [bif_c])
  (try simp only [gu_if])
  (try rfl)
theorem ixS_shR {x : Bw} {p y : PV} : ixS x (.sh p) y = bd0 (ix2 p y) fun q => some (.t (.sh q)) := by unfold ixS; dsimp only; rw [Sl.pv]
theorem ixS_sh {x : Bw} {p y : PV} : ixS x (.sh p) y = bd (ix2 p y) (fun q => some (.t (.sh q))) wt := by
  refine Eq.trans (ixS_shR) ?_
  (try simp only [bif_c])
  (try simp only [gu_if])
  (try rfl)
theorem ixS_ownR {x : Bw} {p : List PV} {y : PV} : ixS x (.own p) y = bd0 (ix2 (.lst p) y) fun q => some (.t (.sh q)) := by unfold ixS; dsimp only; rw [Sl.pv]
theorem ixS_own {x : Bw} {p : List PV} {y : PV} : ixS x (.own p) y = bd (ix2 (.lst p) y) (fun q => some (.t (.sh q))) wt := by
  refine Eq.trans (ixS_ownR) ?_
  (try simp only [bif_c])
  (try simp only [gu_if])
  (try rfl)
theorem ixS_dctR {x : Bw} {t : Nat} {p : List (PV × PV)} {y : PV} : ixS x (.dct t p) y = bd0 (ix2 (.dct t p) y) fun q => some (.t (.sh q)) := by unfold ixS; dsimp only; rw [Sl.pv]
theorem ixS_dct {x : Bw} {t : Nat} {p : List (PV × PV)} {y : PV} : ixS x (.dct t p) y = bd (ix2 (.dct t p) y) (fun q => some (.t (.sh q))) wt := by
  refine Eq.trans (ixS_dctR) ?_
  (try simp only [bif_c])
  (try simp only [gu_if])
  (try rfl)
noncomputable def ixF (x : Bw) (n : Nat) : Sl → Option Bw
  | .sh p => some (.t (.sh p))
  | _ => match x with
    | .b i π => some (.b i (π ++ [n]))
    | .t _ => none
theorem ixS_nstR {x : Bw} {xs : List Sl} {i : Int} : ixS x (.nst xs) (.int i) = bd0 (ixN xs.length i) fun n => bd0 (xs[n]?) fun s => ixF x n s := by
  unfold ixS
  simp only [intO, bd0]
  rcases ixN xs.length i with _ | n
  · rfl
  (try simp only [Option.bind_some, Option.bind_none, Option.map_some, Option.map_none, bd20, bd0])
  rcases xs[n]? with _ | t
  · rfl
  (try simp only [Option.bind_some, Option.bind_none, Option.map_some, Option.map_none, bd20, bd0])
  all_goals (cases t <;> cases x <;> rfl)
theorem ixS_nst {x : Bw} {xs : List Sl} {i : Int} : ixS x (.nst xs) (.int i) = bd (ixN xs.length i) (fun n => bd (xs[n]?) (fun s => ixF x n s) wt) wt := by
  refine Eq.trans (ixS_nstR) ?_
  (try simp only [bif_c])
  (try simp only [gu_if])
  (try rfl)
theorem ixF_sh {x : Bw} {n : Nat} {p : PV} : ixF x n (.sh p) = some (.t (.sh p)) := rfl
theorem ixF_own {i n : Nat} {π : List Nat} {p : List PV} : ixF (.b i π) n (.own p) = some (.b i (π ++ [n])) := rfl
theorem ixF_nst {i n : Nat} {π : List Nat} {p : List Sl} : ixF (.b i π) n (.nst p) = some (.b i (π ++ [n])) := rfl
theorem ixF_dct {i n : Nat} {π : List Nat} {t : Nat} {p : List (PV × PV)} : ixF (.b i π) n (.dct t p) = some (.b i (π ++ [n])) := rfl
theorem ixF_ins {i n : Nat} {π : List Nat} {c : Str} {fs : List Str} {p : List Sl} : ixF (.b i π) n (.ins c fs p) = some (.b i (π ++ [n])) := rfl
theorem y_slcR {a : E} {lo hi : O} : ev F (.slc a lo hi) env = bd20 (ev F a env) fun x e => if gd x (calmO lo && calmO hi) = true then bd20 (evO F lo e) fun l e2 => bd20 (evO F hi e2) fun h e3 => if stB e3 x = true then bd0 (pvb e3 x) fun p => bd0 (slc3 p l h) fun z => some (.t z, e3) else none else none := by (rw [ev]) <;> first | rfl | (simp only [bind2, map2]; done) | (simp only [bind2, map2]; rfl) | (simp only [bind2, map2]; simp only [bind1, map1])
theorem y_slc {a : E} {lo hi : O} : ev F (.slc a lo hi) env = bd2 (ev F a env) (fun x e => cond (gd x (calmO lo && calmO hi)) (bd2 (evO F lo e) (fun l e2 => bd2 (evO F hi e2) (fun h e3 => cond (stB e3 x) (bd (pvb e3 x) (fun p => bd (slc3 p l h) (fun z => some (.t z, e3)) wt) wt) (none)) wt) wt) (none)) wt := by
  refine Eq.trans (y_slcR) ?_
  (try simp only [bif_c])
  (try simp only [gu_if])
  (try rfl)
theorem y_tupR {es : Es} : ev F (.tup es) env = bd20 (evs F es env) fun xs e => bd20 (fixs e xs) fun ps e2 => if ps.length ≤ 16777216 then some (.t (.sh (.tup ps)), e2) else none := by (rw [ev]) <;> first | rfl | (simp only [bind2, map2]; done) | (simp only [bind2, map2]; rfl) | (simp only [bind2, map2]; simp only [bind1, map1])
theorem y_tup {es : Es} : ev F (.tup es) env = bd2 (evs F es env) (fun xs e => bd2 (fixs e xs) (fun ps e2 => gu (ps.length ≤ 16777216) (some (.t (.sh (.tup ps)), e2))) wt) wt := by
  refine Eq.trans (y_tupR) ?_
  (try simp only [bif_c])
  (try simp only [gu_if])
  (try rfl)
theorem y_lstR {es : Es} : ev F (.lst es) env = bd20 (evs F es env) fun xs e => bd20 (fixs e xs) fun ps e2 => if ps.length ≤ 16777216 then some (.t (.own ps), e2) else none := by (rw [ev]) <;> first | rfl | (simp only [bind2, map2]; done) | (simp only [bind2, map2]; rfl) | (simp only [bind2, map2]; simp only [bind1, map1])
theorem y_lst {es : Es} : ev F (.lst es) env = bd2 (evs F es env) (fun xs e => bd2 (fixs e xs) (fun ps e2 => gu (ps.length ≤ 16777216) (some (.t (.own ps), e2))) wt) wt := by
  refine Eq.trans (y_lstR) ?_
  (try simp only [bif_c])
  (try simp only [gu_if])
  (try rfl)
theorem callN_R {g : Nat} {xs : List Bw} : callN F g env xs = bd0 (pvbs env xs) fun ps => bd0 (fv F g ps) fun s => callR s xs env := by
  unfold callN fv callR
  rcases pvbs env xs with _ | ps
  · rfl
  (try simp only [Option.bind_some, Option.bind_none, Option.map_some, Option.map_none, bd20, bd0])
  rcases F g (ps.map .sh) with _ | ⟨s, l⟩
  · rfl
  (try simp only [Option.bind_some, Option.bind_none, Option.map_some, Option.map_none, bd20, bd0])
  split
  · rfl
  · rcases fixs env xs with _ | ⟨a, b⟩ <;> rfl
theorem y_callR {g : Nat} {es : Es} : ev F (.call g es) env = bd20 (evs F es env) fun xs e => bd0 (pvbs e xs) fun ps => bd0 (fv F g ps) fun s => callR s xs e := by
  rw [ev]
  rcases evs F es env with _ | ⟨xs, e⟩
  · rfl
  (try simp only [Option.bind_some, Option.bind_none, Option.map_some, Option.map_none, bd20, bd0])
  rw [callN_R]
theorem y_call {g : Nat} {es : Es} : ev F (.call g es) env = bd2 (evs F es env) (fun xs e => bd (pvbs e xs) (fun ps => bd (fv F g ps) (fun s => callR s xs e) wt) wt) wt := by
  refine Eq.trans (y_callR) ?_
  (try simp only [bif_c])
  (try simp only [gu_if])
  (try rfl)
noncomputable def bltG (f : String) (b : Bool) : Bool := f == "len" || b
theorem y_bltR {f : String} {es : Es} : ev F (.blt f es) env = bd20 (evs F es env) fun xs e => if bltG f (stBs e xs) = true then bd0 (pvbs e xs) fun ps => bd0 (blt2 f ps) fun s => some (.t s, e) else none := by
  unfold bltG
  (rw [ev]) <;> first | rfl | (simp only [bind2, map2]; done) | (simp only [bind2, map2]; rfl) | (simp only [bind2, map2]; simp only [bind1, map1])
theorem y_blt {f : String} {es : Es} : ev F (.blt f es) env = bd2 (evs F es env) (fun xs e => cond (bltG f (stBs e xs)) (bd (pvbs e xs) (fun ps => bd (blt2 f ps) (fun s => some (.t s, e)) wt) wt) (none)) wt := by
  refine Eq.trans (y_bltR) ?_
  (try simp only [bif_c])
  (try simp only [gu_if])
  (try rfl)
theorem bltG_len {b : Bool} : bltG "len" b = true := rfl
theorem bltG_sum {b : Bool} : bltG "sum" b = b := by unfold bltG; rw [bltK_ne_sum]; rfl
theorem bltG_all {b : Bool} : bltG "all" b = b := by unfold bltG; rw [bltK_ne_all]; rfl
theorem bltG_any {b : Bool} : bltG "any" b = b := by unfold bltG; rw [bltK_ne_any]; rfl
theorem bltG_abs {b : Bool} : bltG "abs" b = b := by unfold bltG; rw [bltK_ne_abs]; rfl
theorem bltG_max {b : Bool} : bltG "max" b = b := by unfold bltG; rw [bltK_ne_max]; rfl
theorem bltG_min {b : Bool} : bltG "min" b = b := by unfold bltG; rw [bltK_ne_min]; rfl
theorem bltG_int {b : Bool} : bltG "int" b = b := by unfold bltG; rw [bltK_ne_int]; rfl
theorem bltG_str {b : Bool} : bltG "str" b = b := by unfold bltG; rw [bltK_ne_str]; rfl
theorem bltG_list {b : Bool} : bltG "list" b = b := by unfold bltG; rw [bltK_ne_list]; rfl
theorem bltG_tuple {b : Bool} : bltG "tuple" b = b := by unfold bltG; rw [bltK_ne_tuple]; rfl
theorem bltG_sorted {b : Bool} : bltG "sorted" b = b := by unfold bltG; rw [bltK_ne_sorted]; rfl
theorem y_isiR {a : E} {t : String} : ev F (.isi a t) env = bd20 (ev F a env) fun x e => bd0 (pvb e x) fun p => bd0 (isi2 p t) fun z => some (.t (.sh (.bl z)), e) := by (rw [ev]) <;> first | rfl | (simp only [bind2, map2]; done) | (simp only [bind2, map2]; rfl) | (simp only [bind2, map2]; simp only [bind1, map1])
theorem y_isi {a : E} {t : String} : ev F (.isi a t) env = bd2 (ev F a env) (fun x e => bd (pvb e x) (fun p => bd (isi2 p t) (fun z => some (.t (.sh (.bl z)), e)) wt) wt) wt := by
  refine Eq.trans (y_isiR) ?_
  (try simp only [bif_c])
  (try simp only [gu_if])
  (try rfl)
theorem y_methR {m : String} {a b : E} : ev F (.meth m a b) env = bd20 (ev F a env) fun x e => bd0 (pvb e x) fun p => if gd x (calmE b) = true then bd20 (ev F b e) fun y e2 => bd0 (pvb e2 y) fun q => bd0 (meth2 m p q) fun z => some (.t z, e2) else none := by (rw [ev]) <;> first | rfl | (simp only [bind2, map2]; done) | (simp only [bind2, map2]; rfl) | (simp only [bind2, map2]; simp only [bind1, map1])
theorem y_meth {m : String} {a b : E} : ev F (.meth m a b) env = bd2 (ev F a env) (fun x e => bd (pvb e x) (fun p => cond (gd x (calmE b)) (bd2 (ev F b e) (fun y e2 => bd (pvb e2 y) (fun q => bd (meth2 m p q) (fun z => some (.t z, e2)) wt) wt) wt) (none)) wt) wt := by
  refine Eq.trans (y_methR) ?_
  (try simp only [bif_c])
  (try simp only [gu_if])
  (try rfl)
theorem y_compR {elt : E} {tg : Tg} {own : List (Str × Nat)} {it : I} {cd : C} : ev F (.comp elt tg own it cd) env = bd20 (evI F it env) fun xs e => if (own.map (·.2)).all (shN e) = true then bd20 (compL (turnC F elt tg (own.map (·.2)) cd) xs (wipeE (own.map (·.2)) e) []) fun ys e2 => some (.t (.own ys), backE e (own.map (·.2)) (wipeE (own.map (·.2)) e2)) else none := by
  rw [ev]
  rcases evI F it env with _ | ⟨xs, e⟩
  · rfl
  show (if (own.map (·.2)).all (shN e) = true then (compL (turnC F elt tg (own.map (·.2)) cd) xs (wipeE (own.map (·.2)) e) []).map _ else none) = _
  split
  · rename_i h
    rw [map2]; show _ = if (own.map (·.2)).all (shN e) = true then _ else _; rw [if_pos h]
  · rename_i h
    show _ = if (own.map (·.2)).all (shN e) = true then _ else _; rw [if_neg h]
theorem y_comp {elt : E} {tg : Tg} {own : List (Str × Nat)} {it : I} {cd : C} : ev F (.comp elt tg own it cd) env = bd2 (evI F it env) (fun xs e => cond ((own.map (·.2)).all (shN e)) (bd2 (compL (turnC F elt tg (own.map (·.2)) cd) xs (wipeE (own.map (·.2)) e) []) (fun ys e2 => some (.t (.own ys), backE e (own.map (·.2)) (wipeE (own.map (·.2)) e2))) wt) (none)) wt := by
  refine Eq.trans (y_compR) ?_
  (try simp only [bif_c])
  (try simp only [gu_if])
  (try rfl)
theorem y_attR {a : E} {f : Str} {cs : List Str} : ev F (.att a f cs) env = bd20 (ev F a env) fun x e => bd0 (attB e x f cs) fun z => some (z, e) := by (rw [ev]) <;> first | rfl | (simp only [bind2, map2]; done) | (simp only [bind2, map2]; rfl) | (simp only [bind2, map2]; simp only [bind1, map1])
theorem y_att {a : E} {f : Str} {cs : List Str} : ev F (.att a f cs) env = bd2 (ev F a env) (fun x e => bd (attB e x f cs) (fun z => some (z, e)) wt) wt := by
  refine Eq.trans (y_attR) ?_
  (try simp only [bif_c])
  (try simp only [gu_if])
  (try rfl)
theorem attB_tR {c : Str} {ns : List Str} {xs : List PV} {f : Str} {cs : List Str} : attB env (.t (.sh (.obj c ns xs))) f cs = if cs.contains c = true then bd0 (posS ns f) fun n => bd0 (xs[n]?) fun p => some (.t (.sh p)) else none := by
  show (if cs.contains c = true then (posS ns f).bind fun n => (xs[n]?).map fun p => Bw.t (.sh p) else none) = _
  split
  · rcases posS ns f with _ | n
    · rfl
    (try simp only [Option.bind_some, Option.bind_none, Option.map_some, Option.map_none, bd20, bd0])
    cases xs[n]? <;> rfl
  · rfl
theorem attB_t {c : Str} {ns : List Str} {xs : List PV} {f : Str} {cs : List Str} : attB env (.t (.sh (.obj c ns xs))) f cs = cond (cs.contains c) (bd (posS ns f) (fun n => bd (xs[n]?) (fun p => some (.t (.sh p))) wt) wt) (none) := by
  refine Eq.trans (attB_tR) ?_
  (try simp only [bif_c])
  (try simp only [gu_if])
  (try rfl)
noncomputable def attF (x : Bw) (f : Str) (cs : List Str) : Sl → Option Bw
  | .sh (.obj c ns xs) => if cs.contains c = true then bd0 (posS ns f) fun n => bd0 (xs[n]?) fun p => some (.t (.sh p)) else none
  | .ins c ns xs => if cs.contains c = true then bd0 (posS ns f) fun n => bd0 (xs[n]?) fun s => ixF x n s else none
  | _ => none
theorem attB_F {x : Bw} {f : Str} {cs : List Str} : attB env x f cs = bd0 (slb env x) fun s => attF x f cs s := by
  unfold attB
  rcases slb env x with _ | s
  · rfl
  (try simp only [Option.bind_some, Option.bind_none, Option.map_some, Option.map_none, bd20, bd0])
  cases s with
  | sh p =>
    cases p <;> first | rfl | skip
    rename_i c ns xs
    unfold attF
    (try simp only [Option.bind_some, Option.bind_none, Option.map_some, Option.map_none, bd20, bd0])
    split
    · rcases posS ns f with _ | n
      · rfl
      (try simp only [Option.bind_some, Option.bind_none, Option.map_some, Option.map_none, bd20, bd0])
      cases xs[n]? <;> rfl
    · rfl
  | ins c ns xs =>
    unfold attF
    (try simp only [Option.bind_some, Option.bind_none, Option.map_some, Option.map_none, bd20, bd0])
    split
    · rcases posS ns f with _ | n
      · rfl
      (try simp only [Option.bind_some, Option.bind_none, Option.map_some, Option.map_none, bd20, bd0])
      rcases xs[n]? with _ | s
      · rfl
      (try simp only [Option.bind_some, Option.bind_none, Option.map_some, Option.map_none, bd20, bd0])
      cases s <;> cases x <;> rfl
    · rfl
  | _ => rfl
theorem attB_tiR {s : Sl} {f : Str} {cs : List Str} : attB env (.t s) f cs = bd0 (s.sub []) fun s2 => attF (.t s) f cs s2 := attB_F
theorem attB_ti {s : Sl} {f : Str} {cs : List Str} : attB env (.t s) f cs = bd (s.sub []) (fun s2 => attF (.t s) f cs s2) wt := by
  refine Eq.trans (attB_tiR) ?_
  (try simp only [bif_c])
  (try simp only [gu_if])
  (try rfl)
theorem attB_bR {i : Nat} {π : List Nat} {f : Str} {cs : List Str} : attB env (.b i π) f cs = bd0 (slb env (.b i π)) fun s => attF (.b i π) f cs s := attB_F
theorem attB_b {i : Nat} {π : List Nat} {f : Str} {cs : List Str} : attB env (.b i π) f cs = bd (slb env (.b i π)) (fun s => attF (.b i π) f cs s) wt := by
  refine Eq.trans (attB_bR) ?_
  (try simp only [bif_c])
  (try simp only [gu_if])
  (try rfl)
theorem attF_shR {x : Bw} {c : Str} {ns : List Str} {xs : List PV} {f : Str} {cs : List Str} : attF x f cs (.sh (.obj c ns xs)) = if cs.contains c = true then bd0 (posS ns f) fun n => bd0 (xs[n]?) fun p => some (.t (.sh p)) else none := rfl
theorem attF_sh {x : Bw} {c : Str} {ns : List Str} {xs : List PV} {f : Str} {cs : List Str} : attF x f cs (.sh (.obj c ns xs)) = cond (cs.contains c) (bd (posS ns f) (fun n => bd (xs[n]?) (fun p => some (.t (.sh p))) wt) wt) (none) := by
  refine Eq.trans (attF_shR) ?_
  (try simp only [bif_c])
  (try simp only [gu_if])
  (try rfl)
theorem attF_insR {x : Bw} {c : Str} {ns : List Str} {xs : List Sl} {f : Str} {cs : List Str} : attF x f cs (.ins c ns xs) = if cs.contains c = true then bd0 (posS ns f) fun n => bd0 (xs[n]?) fun s => ixF x n s else none := rfl
theorem attF_ins {x : Bw} {c : Str} {ns : List Str} {xs : List Sl} {f : Str} {cs : List Str} : attF x f cs (.ins c ns xs) = cond (cs.contains c) (bd (posS ns f) (fun n => bd (xs[n]?) (fun s => ixF x n s) wt) wt) (none) := by
  refine Eq.trans (attF_insR) ?_
  (try simp only [bif_c])
  (try simp only [gu_if])
  (try rfl)
noncomputable def clsF (m : Str) : Sl → Option Str
  | .sh (.obj c ns _) => if posS ns m = none then some c else none
  | .ins c ns _ => if posS ns m = none then some c else none
  | _ => none
theorem clsB_FR {x : Bw} {m : Str} : clsB env x m = bd0 (slb env x) fun s => clsF m s := by
  unfold clsB
  rcases slb env x with _ | s
  · rfl
  (try simp only [Option.bind_some, Option.bind_none, Option.map_some, Option.map_none, bd20, bd0])
  cases s with
  | sh p => cases p <;> rfl
  | _ => rfl
theorem clsB_F {x : Bw} {m : Str} : clsB env x m = bd (slb env x) (fun s => clsF m s) wt := by
  refine Eq.trans (clsB_FR) ?_
  (try simp only [bif_c])
  (try simp only [gu_if])
  (try rfl)
noncomputable def nnK {α : Type} (o : Option Nat) (x : α) : Option α := match o with
  | none => some x
  | some _ => none
theorem nnK_n {x : α} : nnK none x = some x := rfl
theorem clsF_sh {m c : Str} {ns : List Str} {xs : List PV} : clsF m (.sh (.obj c ns xs)) = nnK (posS ns m) c := by
  show (if posS ns m = none then some c else none) = _
  unfold nnK
  cases posS ns m <;> rfl
theorem clsF_ins {m c : Str} {ns : List Str} {xs : List Sl} : clsF m (.ins c ns xs) = nnK (posS ns m) c := by
  show (if posS ns m = none then some c else none) = _
  unfold nnK
  cases posS ns m <;> rfl
theorem y_mcallR {a : E} {m : Str} {tb : List (Str × Nat)} {es : Es} : ev F (.mcall a m tb es) env = bd20 (ev F a env) fun x e => bd0 (clsB e x m) fun c => bd0 (tbF tb c) fun g => if gd x (calmEs es) = true then bd20 (evs F es e) fun xs e2 => bd0 (pvbs e2 (x :: xs)) fun ps => bd0 (fv F g ps) fun s => callR s (x :: xs) e2 else none := by
  rw [ev]
  rcases ev F a env with _ | ⟨x, e⟩
  · rfl
  (try simp only [Option.bind_some, Option.bind_none, Option.map_some, Option.map_none, bd20, bd0])
  rcases clsB e x m with _ | c
  · rfl
  (try simp only [Option.bind_some, Option.bind_none, Option.map_some, Option.map_none, bd20, bd0])
  rcases tbF tb c with _ | g
  · rfl
  (try simp only [Option.bind_some, Option.bind_none, Option.map_some, Option.map_none, bd20, bd0])
  split
  · rcases evs F es e with _ | ⟨xs, e2⟩
    · rfl
    (try simp only [Option.bind_some, Option.bind_none, Option.map_some, Option.map_none, bd20, bd0])
    rw [callN_R]
  · rfl
theorem y_mcall {a : E} {m : Str} {tb : List (Str × Nat)} {es : Es} : ev F (.mcall a m tb es) env = bd2 (ev F a env) (fun x e => bd (clsB e x m) (fun c => bd (tbF tb c) (fun g => cond (gd x (calmEs es)) (bd2 (evs F es e) (fun xs e2 => bd (pvbs e2 (x :: xs)) (fun ps => bd (fv F g ps) (fun s => callR s (x :: xs) e2) wt) wt) wt) (none)) wt) wt) wt := by
  refine Eq.trans (y_mcallR) ?_
  (try simp only [bif_c])
  (try simp only [gu_if])
  (try rfl)
noncomputable def newR (q : Sl × List Sl) (xs : List Bw) (e : PEnv) : Option (Bw × PEnv) := match q with
  | (.sh .non, [s]) => callR s xs e
  | _ => none
theorem newR_ok {s : Sl} {xs : List Bw} : newR (.sh .non, [s]) xs env = callR s xs env := rfl
theorem y_newR {c : Str} {g : Nat} {es : Es} : ev F (.new c g es) env = bd20 (evs F es env) fun xs e => bd0 (pvbs e xs) fun ps => bd0 (F g (.ins c [] [] :: ps.map .sh)) fun q => newR q xs e := by
  rw [ev]
  rcases evs F es env with _ | ⟨xs, e⟩
  · rfl
  (try simp only [Option.bind_some, Option.bind_none, Option.map_some, Option.map_none, bd20, bd0])
  unfold newC newR callR
  rcases pvbs e xs with _ | ps
  · rfl
  (try simp only [Option.bind_some, Option.bind_none, Option.map_some, Option.map_none, bd20, bd0])
  rcases F g (.ins c [] [] :: ps.map .sh) with _ | ⟨s, l⟩
  · rfl
  (try simp only [Option.bind_some, Option.bind_none, Option.map_some, Option.map_none, bd20, bd0])
  cases s with
  | sh p =>
    cases p <;> first | rfl | skip
    match l with
    | [] => rfl
    | [s] =>
      (try simp only [Option.bind_some, Option.bind_none, Option.map_some, Option.map_none, bd20, bd0])
      split
      · rfl
      · rcases fixs e xs with _ | ⟨a, b⟩ <;> rfl
    | _ :: _ :: _ => rfl
  | _ => rfl
theorem y_new {c : Str} {g : Nat} {es : Es} : ev F (.new c g es) env = bd2 (evs F es env) (fun xs e => bd (pvbs e xs) (fun ps => bd (F g (.ins c [] [] :: ps.map .sh)) (fun q => newR q xs e) wt) wt) wt := by
  refine Eq.trans (y_newR) ?_
  (try simp only [bif_c])
  (try simp only [gu_if])
  (try rfl)
noncomputable def lmR (F : Fns) (g : Nat) (x : Bw) (xs : List Bw) (e : PEnv) : Option (Bw × PEnv) := callL F (true :: xs.map fun _ => false) g e (x :: xs)
theorem y_lmcallR {a : E} {m : Str} {tb : List (Str × Nat)} {es : Es} : ev F (.lmcall a m tb es) env = bd20 (ev F a env) fun x e => bd0 (clsB e x m) fun c => bd0 (tbF tb c) fun g => if gd x (calmEs es) = true then bd20 (evs F es e) fun xs e2 => lmR F g x xs e2 else none := by
  rw [ev]
  rcases ev F a env with _ | ⟨x, e⟩
  · rfl
  (try simp only [Option.bind_some, Option.bind_none, Option.map_some, Option.map_none, bd20, bd0])
  rcases clsB e x m with _ | c
  · rfl
  (try simp only [Option.bind_some, Option.bind_none, Option.map_some, Option.map_none, bd20, bd0])
  rcases tbF tb c with _ | g
  · rfl
  (try simp only [Option.bind_some, Option.bind_none, Option.map_some, Option.map_none, bd20, bd0])
  split
  · rcases evs F es e with _ | ⟨xs, e2⟩ <;> rfl
  · rfl
theorem y_lmcall {a : E} {m : Str} {tb : List (Str × Nat)} {es : Es} : ev F (.lmcall a m tb es) env = bd2 (ev F a env) (fun x e => bd (clsB e x m) (fun c => bd (tbF tb c) (fun g => cond (gd x (calmEs es)) (bd2 (evs F es e) (fun xs e2 => lmR F g x xs e2) wt) (none)) wt) wt) wt := by
  refine Eq.trans (y_lmcallR) ?_
  (try simp only [bif_c])
  (try simp only [gu_if])
  (try rfl)
noncomputable def lmQ (q : Sl × List Sl) (i : Nat) (e : PEnv) : Option (Bw × PEnv) := match q with
  | (r, [s]) => some (.t r, e.set i (some s))
  | _ => none
theorem lmQ_ok {r s : Sl} {i : Nat} : lmQ (r, [s]) i env = some (.t r, env.set i (some s)) := rfl
theorem lmR_1R {g i : Nat} {p : PV} : lmR F g (.b i []) [.t (.sh p)] env = bd0 (env.getD i none) fun s => bd0 (F g [s, .sh p]) fun q => lmQ q i env := by
  unfold lmR callL lmQ
  rw [if_pos (show (rootsB [Bw.b i [], Bw.t (.sh p)]).Nodup from List.nodup_cons.mpr ⟨List.not_mem_nil, List.nodup_nil⟩)]
  rcases he : env.getD i none with _ | s
  · simp only [List.map, argS, he, Option.bind_none, bd0]
  · simp only [List.map, argS, he, slb, Option.bind_some, Option.map_some, bd0, Sl.sub, Sl.pv]
    rcases F g [s, .sh p] with _ | ⟨r, l⟩
    · rfl
    · simp only [Option.bind_some, shB, isSh, slb, Sl.sub, Bool.true_and, Bool.or_true, if_true]
      match l with
      | [] => rfl
      | [z] => rfl
      | _ :: _ :: _ => rfl
theorem lmR_1 {g i : Nat} {p : PV} : lmR F g (.b i []) [.t (.sh p)] env = bd (env.getD i none) (fun s => bd (F g [s, .sh p]) (fun q => lmQ q i env) wt) wt := by
  refine Eq.trans (lmR_1R) ?_
  (try simp only [bif_c])
  (try simp only [gu_if])
  (try rfl)
noncomputable def lmQf (q : Sl × List Sl) (i : Nat) (e : PEnv) : Option (Bw × PEnv) := match q with
  | (r, [s]) => if (r.flat && (s.flat && true)) = true then some (.t r, e.set i (some s)) else none
  | _ => none
theorem lmQf_okR {r s : Sl} {i : Nat} : lmQf (r, [s]) i env = if (r.flat && s.flat) = true then some (.t r, env.set i (some s)) else none := by
  show (if (r.flat && (s.flat && true)) = true then some _ else none) = _
  rw [Bool.and_true]
theorem lmQf_ok {r s : Sl} {i : Nat} : lmQf (r, [s]) i env = cond ((r.flat && s.flat)) (some (.t r, env.set i (some s))) (none) := by
  refine Eq.trans (lmQf_okR) ?_
  (try simp only [bif_c])
  (try simp only [gu_if])
  (try rfl)
theorem lmR_1oR {g i : Nat} {p : List PV} : lmR F g (.b i []) [.t (.own p)] env = bd0 (env.getD i none) fun s => bd0 (F g [s, .sh (.lst p)]) fun q => lmQf q i env := by
  unfold lmR callL lmQf
  rw [if_pos (show (rootsB [Bw.b i [], Bw.t (.own p)]).Nodup from List.nodup_cons.mpr ⟨List.not_mem_nil, List.nodup_nil⟩)]
  rcases he : env.getD i none with _ | s
  · simp only [List.map, argS, he, Option.bind_none, bd0]
  · simp only [List.map, argS, he, slb, Option.bind_some, Option.map_some, bd0, Sl.sub, Sl.pv]
    rcases F g [s, .sh (.lst p)] with _ | ⟨r, l⟩
    · rfl
    · simp only [Option.bind_some, shB, isSh, slb, Sl.sub, Bool.false_and, Bool.or_false]
      match l with
      | [] => (generalize (r.flat && Sl.flats []) = bb; cases bb <;> rfl)
      | [z] => rfl
      | x1 :: x2 :: x3 => (generalize (r.flat && Sl.flats (x1 :: x2 :: x3)) = bb; cases bb <;> rfl)
theorem lmR_1o {g i : Nat} {p : List PV} : lmR F g (.b i []) [.t (.own p)] env = bd (env.getD i none) (fun s => bd (F g [s, .sh (.lst p)]) (fun q => lmQf q i env) wt) wt := by
  refine Eq.trans (lmR_1oR) ?_
  (try simp only [bif_c])
  (try simp only [gu_if])
  (try rfl)
theorem okKey_i {i : Int} : okKey 0 (.int i) = true := rfl
theorem okKey_s {i : Str} : okKey 0 (.str i) = true := rfl
theorem okKey_t {ks : List Int} : okKey 1 (.tup (ks.map PV.int)) = true := by
  show (keysL (ks.map PV.int)).isSome = true
  induction ks with
  | nil => rfl
  | cons k ks ih =>
    obtain ⟨r, hr⟩ := Option.isSome_iff_exists.mp ih
    show (((keyP (.int k)).bind fun k => (keysL (ks.map PV.int)).map (k :: ·))).isSome = true
    rw [hr]; rfl
theorem okKey_t2 {i j : Int} : okKey 1 (.tup [.int i, .int j]) = true := rfl
theorem y_wall : ev F .wall env = none := by (rw [ev]) <;> first | rfl | (simp only [bind2, map2]; done) | (simp only [bind2, map2]; rfl) | (simp only [bind2, map2]; simp only [bind1, map1])
theorem y_turnR {elt : E} {tg : Tg} {vs : List Nat} {cd : C} {p : PV} : turnC F elt tg vs cd p env = bd0 (bindT tg p env) fun e1 => bd20 (evC F cd e1) fun c e2 => if c = true then bd20 (ev F elt e2) fun x e3 => bd20 (fix e3 x) fun y e4 => some (some y, wipeE vs e4) else some (none, wipeE vs e2) := by
  unfold turnC
  rcases bindT tg p env with _ | e1
  · rfl
  (try simp only [Option.bind_some, Option.bind_none, Option.map_some, Option.map_none, bd20, bd0])
  rcases evC F cd e1 with _ | ⟨c, e2⟩
  · rfl
  (try simp only [Option.bind_some, Option.bind_none, Option.map_some, Option.map_none, bd20, bd0])
  cases c
  · rfl
  · rw [if_pos rfl, if_pos rfl]
    rcases ev F elt e2 with _ | ⟨x, e3⟩
    · rfl
    (try simp only [Option.bind_some, Option.bind_none, Option.map_some, Option.map_none, bd20, bd0])
    rcases fix e3 x with _ | ⟨y, e4⟩ <;> rfl
theorem y_turn {elt : E} {tg : Tg} {vs : List Nat} {cd : C} {p : PV} : turnC F elt tg vs cd p env = bd (bindT tg p env) (fun e1 => bd2 (evC F cd e1) (fun c e2 => cond (c) (bd2 (ev F elt e2) (fun x e3 => bd2 (fix e3 x) (fun y e4 => some (some y, wipeE vs e4)) wt) wt) (some (none, wipeE vs e2))) wt) wt := by
  refine Eq.trans (y_turnR) ?_
  (try simp only [bif_c])
  (try simp only [gu_if])
  (try rfl)
theorem wipe_nil' : wipeE [] env = env := rfl
theorem wipe_cons' {i : Nat} {vs : List Nat} : wipeE (i :: vs) env = (wipeE vs env).set i none := rfl
theorem back_nil' {old : PEnv} : backE old [] env = env := rfl
theorem back_cons' {old : PEnv} {i : Nat} {vs : List Nat} : backE old (i :: vs) env = (backE old vs env).set i (old.getD i none) := rfl
noncomputable def shNO : Option Sl → Bool
  | none => true
  | some (.sh _) => true
  | _ => false
theorem shN_O {i : Nat} : shN env i = shNO (env.getD i none) := by unfold shN shNO; rcases env.getD i none with _ | s <;> first | rfl | (cases s <;> rfl)
theorem shNO_n : shNO none = true := rfl
theorem shNO_s {p : PV} : shNO (some (.sh p)) = true := rfl
theorem all_nil' {p : α → Bool} : List.all [] p = true := rfl
theorem all_cons' {p : α → Bool} {x : α} {xs : List α} : List.all (x :: xs) p = (p x && List.all xs p) := rfl
theorem y_O_no : evO F .no env = some (none, env) := by rw [evO]
theorem y_O_someR {a : E} : evO F (.some a) env = bd20 (ev F a env) fun x e => bd0 (pvb e x) fun p => bd0 (intO p) fun c => some (some c, e) := by
  rw [evO]
  rcases ev F a env with _ | ⟨x, e⟩
  · rfl
  (try simp only [Option.bind_some, Option.bind_none, Option.map_some, Option.map_none, bd20, bd0])
  rcases pvb e x with _ | p
  · rfl
  cases p <;> first | rfl | (rename_i c; cases c <;> rfl)
theorem y_O_some {a : E} : evO F (.some a) env = bd2 (ev F a env) (fun x e => bd (pvb e x) (fun p => bd (intO p) (fun c => some (some c, e)) wt) wt) wt := by
  refine Eq.trans (y_O_someR) ?_
  (try simp only [bif_c])
  (try simp only [gu_if])
  (try rfl)
theorem y_C_yes : evC F .yes env = some (true, env) := by rw [evC]
theorem y_C_on {t : T} : evC F (.on t) env = evT F t env := by rw [evC]
theorem y_nil : evs F .nil env = some ([], env) := by rw [evs]
theorem y_consR {a : E} {es : Es} : evs F (.cons a es) env = bd20 (ev F a env) fun x e => if gd x (calmEs es) = true then bd20 (evs F es e) fun xs e2 => some (x :: xs, e2) else none := by (rw [evs]) <;> first | rfl | (simp only [bind2, map2]; done) | (simp only [bind2, map2]; simp only [bind1, map1])
theorem y_cons {a : E} {es : Es} : evs F (.cons a es) env = bd2 (ev F a env) (fun x e => cond (gd x (calmEs es)) (bd2 (evs F es e) (fun xs e2 => some (x :: xs, e2)) wt) (none)) wt := by
  refine Eq.trans (y_consR) ?_
  (try simp only [bif_c])
  (try simp only [gu_if])
  (try rfl)
theorem t_val'R {a : E} : evT F (.val a) env = bd20 (ev F a env) fun x e => bd0 (pvb e x) fun p => bd0 (truth p) fun z => some (z, e) := by (rw [evT]) <;> first | rfl | (simp only [bind2, map2]; done) | (simp only [bind2, map2]; simp only [bind1, map1])
theorem t_val' {a : E} : evT F (.val a) env = bd2 (ev F a env) (fun x e => bd (pvb e x) (fun p => bd (truth p) (fun z => some (z, e)) wt) wt) wt := by
  refine Eq.trans (t_val'R) ?_
  (try simp only [bif_c])
  (try simp only [gu_if])
  (try rfl)
theorem t_cmp'R {op : CmpOp} {a b : E} : evT F (.cmp op a b) env = bd20 (ev F a env) fun x e => if gd x (calmE b) = true then bd20 (ev F b e) fun y e2 => bd0 (pvb e2 x) fun p => bd0 (pvb e2 y) fun q => bd0 (cmp2 op p q) fun z => some (z, e2) else none := by (rw [evT]) <;> first | rfl | (simp only [bind2, map2]; done) | (simp only [bind2, map2]; simp only [bind1, map1])
theorem t_cmp' {op : CmpOp} {a b : E} : evT F (.cmp op a b) env = bd2 (ev F a env) (fun x e => cond (gd x (calmE b)) (bd2 (ev F b e) (fun y e2 => bd (pvb e2 x) (fun p => bd (pvb e2 y) (fun q => bd (cmp2 op p q) (fun z => some (z, e2)) wt) wt) wt) wt) (none)) wt := by
  refine Eq.trans (t_cmp'R) ?_
  (try simp only [bif_c])
  (try simp only [gu_if])
  (try rfl)
theorem t_chain'R {op op' : CmpOp} {a b c : E} : evT F (.chain op op' a b c) env = bd20 (ev F a env) fun x e => if gd x (calmE b && calmE c) = true then bd20 (ev F b e) fun y e2 => if gd y (calmE c) = true then bd0 (pvb e2 x) fun p => bd0 (pvb e2 y) fun q => bd0 (cmp2 op p q) fun z => if z = true then bd20 (ev F c e2) fun v e3 => bd0 (pvb e3 y) fun q' => bd0 (pvb e3 v) fun u => bd0 (cmp2 op' q' u) fun z' => some (z', e3) else some (false, e2) else none else none := by
  rw [evT]
  unfold fChain
  rcases ev F a env with _ | ⟨x, e⟩
  · rfl
  (try simp only [Option.bind_some, Option.bind_none, Option.map_some, Option.map_none, bd20, bd0])
  by_cases h1 : gd x (calmE b && calmE c) = true
  · rw [if_pos h1, if_pos h1]
    rcases ev F b e with _ | ⟨y, e2⟩
    · rfl
    (try simp only [Option.bind_some, Option.bind_none, Option.map_some, Option.map_none, bd20, bd0])
    by_cases h2 : gd y (calmE c) = true
    · rw [if_pos h2, if_pos h2]
      rcases pvb e2 x with _ | p
      · rfl
      rcases pvb e2 y with _ | q
      · rfl
      (try simp only [Option.bind_some, Option.bind_none, Option.map_some, Option.map_none, bd20, bd0])
      rcases cmp2 op p q with _ | z
      · rfl
      (try simp only [Option.bind_some, Option.bind_none, Option.map_some, Option.map_none, bd20, bd0])
      cases z
      · rfl
      · rw [if_pos rfl, if_pos rfl]
        rcases ev F c e2 with _ | ⟨v, e3⟩
        · rfl
        (try simp only [Option.bind_some, Option.bind_none, Option.map_some, Option.map_none, bd20, bd0])
        rcases pvb e3 y with _ | q'
        · rfl
        rcases pvb e3 v with _ | u
        · rfl
        (try simp only [Option.bind_some, Option.bind_none, Option.map_some, Option.map_none, bd20, bd0])
        rcases cmp2 op' q' u with _ | z' <;> rfl
    · rw [if_neg h2, if_neg h2] <;> rfl
  · rw [if_neg h1, if_neg h1] <;> rfl
theorem t_chain' {op op' : CmpOp} {a b c : E} : evT F (.chain op op' a b c) env = bd2 (ev F a env) (fun x e => cond (gd x (calmE b && calmE c)) (bd2 (ev F b e) (fun y e2 => cond (gd y (calmE c)) (bd (pvb e2 x) (fun p => bd (pvb e2 y) (fun q => bd (cmp2 op p q) (fun z => cond (z) (bd2 (ev F c e2) (fun v e3 => bd (pvb e3 y) (fun q' => bd (pvb e3 v) (fun u => bd (cmp2 op' q' u) (fun z' => some (z', e3)) wt) wt) wt) wt) (some (false, e2))) wt) wt) wt) (none)) wt) (none)) wt := by
  refine Eq.trans (t_chain'R) ?_
  (try simp only [bif_c])
  (try simp only [gu_if])
  (try rfl)
theorem t_and'R {a b : T} : evT F (.and a b) env = bd20 (evT F a env) fun t e => if t = true then evT F b e else some (false, e) := by
  rw [evT]
  rcases evT F a env with _ | ⟨t, e⟩
  · rfl
  cases t <;> rfl
theorem t_and' {a b : T} : evT F (.and a b) env = bd2 (evT F a env) (fun t e => cond (t) (evT F b e) (some (false, e))) wt := by
  refine Eq.trans (t_and'R) ?_
  (try simp only [bif_c])
  (try simp only [gu_if])
  (try rfl)
theorem t_or'R {a b : T} : evT F (.or a b) env = bd20 (evT F a env) fun t e => if t = true then some (true, e) else evT F b e := by
  rw [evT]
  rcases evT F a env with _ | ⟨t, e⟩
  · rfl
  cases t <;> rfl
theorem t_or' {a b : T} : evT F (.or a b) env = bd2 (evT F a env) (fun t e => cond (t) (some (true, e)) (evT F b e)) wt := by
  refine Eq.trans (t_or'R) ?_
  (try simp only [bif_c])
  (try simp only [gu_if])
  (try rfl)
theorem t_not'R {a : T} : evT F (.not a) env = bd20 (evT F a env) fun t e => some (!t, e) := by (rw [evT]) <;> first | rfl | (simp only [bind2, map2]; done) | (simp only [bind2, map2]; simp only [bind1, map1])
theorem t_not' {a : T} : evT F (.not a) env = bd2 (evT F a env) (fun t e => some (!t, e)) wt := by
  refine Eq.trans (t_not'R) ?_
  (try simp only [bif_c])
  (try simp only [gu_if])
  (try rfl)
theorem i_val'R {a : E} : evI F (.val a) env = bd20 (ev F a env) fun x e => bd20 (fix e x) fun p e2 => bd0 (items1 p) fun xs => some (xs, e2) := by (rw [evI]) <;> first | rfl | (simp only [bind2, map2]; done) | (simp only [bind2, map2]; simp only [bind1, map1])
theorem i_val' {a : E} : evI F (.val a) env = bd2 (ev F a env) (fun x e => bd2 (fix e x) (fun p e2 => bd (items1 p) (fun xs => some (xs, e2)) wt) wt) wt := by
  refine Eq.trans (i_val'R) ?_
  (try simp only [bif_c])
  (try simp only [gu_if])
  (try rfl)
theorem i_range1'R {a : E} : evI F (.range1 a) env = bd20 (ev F a env) fun x e => bd0 (pvb e x) fun p => bd0 (intO p) fun j => if -4611686018427387904 ≤ j ∧ j < 4611686018427387904 then some (rangeL 0 j.toNat, e) else none := by
  rw [evI]
  rcases ev F a env with _ | ⟨x, e⟩
  · rfl
  (try simp only [Option.bind_some, Option.bind_none, Option.map_some, Option.map_none, bd20, bd0])
  rcases pvb e x with _ | p
  · rfl
  cases p <;> first | rfl | skip
  rename_i j
  show (if inR j = true then _ else _) = _
  unfold inR
  by_cases h : (-4611686018427387904 ≤ j ∧ j < 4611686018427387904)
  · rw [if_pos (by exact decide_eq_true h)]; dsimp only [intO]; rw [if_pos h]
  · rw [if_neg (by rw [decide_eq_true_eq]; exact h)]; dsimp only [intO]; rw [if_neg h]
theorem i_range1' {a : E} : evI F (.range1 a) env = bd2 (ev F a env) (fun x e => bd (pvb e x) (fun p => bd (intO p) (fun j => gu (-4611686018427387904 ≤ j ∧ j < 4611686018427387904) (some (rangeL 0 j.toNat, e))) wt) wt) wt := by
  refine Eq.trans (i_range1'R) ?_
  (try simp only [bif_c])
  (try simp only [gu_if])
  (try rfl)
theorem i_enum'R {a : E} : evI F (.enum a) env = bd20 (ev F a env) fun x e => bd20 (fix e x) fun p e2 => bd0 (lstO p) fun xs => some (enumL xs, e2) := by
  rw [evI]
  rcases ev F a env with _ | ⟨x, e⟩
  · rfl
  (try simp only [Option.bind_some, Option.bind_none, Option.map_some, Option.map_none, bd20, bd0])
  rcases fix e x with _ | ⟨p, e2⟩
  · rfl
  cases p <;> rfl
theorem i_enum' {a : E} : evI F (.enum a) env = bd2 (ev F a env) (fun x e => bd2 (fix e x) (fun p e2 => bd (lstO p) (fun xs => some (enumL xs, e2)) wt) wt) wt := by
  refine Eq.trans (i_enum'R) ?_
  (try simp only [bif_c])
  (try simp only [gu_if])
  (try rfl)
theorem i_zip'R {a b : E} : evI F (.zip a b) env = bd20 (ev F a env) fun x e => if gd x (calmE b) = true then bd20 (ev F b e) fun y e2 => bd20 (fix e2 x) fun p e3 => bd20 (fix e3 y) fun q e4 => bd0 (zipL p q) fun xs => some (xs, e4) else none := by
  rw [evI]
  rcases ev F a env with _ | ⟨x, e⟩
  · rfl
  (try simp only [Option.bind_some, Option.bind_none, Option.map_some, Option.map_none, bd20, bd0])
  split
  · rcases ev F b e with _ | ⟨y, e2⟩
    · rfl
    simp only [fixs, Option.bind_some, Option.map_some]
    rcases fix e2 x with _ | ⟨p, e3⟩
    · rfl
    (try simp only [Option.bind_some, Option.bind_none, Option.map_some, Option.map_none, bd20, bd0])
    rcases fix e3 y with _ | ⟨q, e4⟩
    · rfl
    (try simp only [Option.bind_some, Option.bind_none, Option.map_some, Option.map_none, bd20, bd0])
    cases zipL p q <;> rfl
  · rfl
theorem i_zip' {a b : E} : evI F (.zip a b) env = bd2 (ev F a env) (fun x e => cond (gd x (calmE b)) (bd2 (ev F b e) (fun y e2 => bd2 (fix e2 x) (fun p e3 => bd2 (fix e3 y) (fun q e4 => bd (zipL p q) (fun xs => some (xs, e4)) wt) wt) wt) wt) (none)) wt := by
  refine Eq.trans (i_zip'R) ?_
  (try simp only [bif_c])
  (try simp only [gu_if])
  (try rfl)
theorem bindT_name {i : Nat} {p : PV} : bindT (.name i) p env = some (env.set i (some (.sh p))) := rfl
theorem bindT_tup {is : List Nat} {ps : List PV} : bindT (.tup is) (.tup ps) env = setAll is ps env := rfl
theorem setAll_nil : setAll [] [] env = some env := rfl
theorem setAll_cons {i : Nat} {is : List Nat} {p : PV} {ps : List PV} : setAll (i :: is) (p :: ps) env = setAll is ps (env.set i (some (.sh p))) := rfl
noncomputable def forB (F : Fns) (tg : Tg) (b : Ss) (p : PV) (e : PEnv) : Option Fl := bd0 (bindT tg p e) fun e1 => exs F b e1
theorem forB_eqR {tg : Tg} {b : Ss} {p : PV} : forB F tg b p env = bd0 (bindT tg p env) fun e1 => exs F b e1 := rfl
theorem forB_eq {tg : Tg} {b : Ss} {p : PV} : forB F tg b p env = bd (bindT tg p env) (fun e1 => exs F b e1) wt := by
  refine Eq.trans (forB_eqR) ?_
  (try simp only [bif_c])
  (try simp only [gu_if])
  (try rfl)
theorem z_nil : exs F .nil env = some (.next env) := by rw [exs]
theorem z_consR {s : S} {ss : Ss} : exs F (.cons s ss) env = sq0 (ex F s env) fun e => exs F ss e := by
  rw [exs]
  rcases ex F s env with _ | _ | _ | _ <;> rfl
theorem z_cons {s : S} {ss : Ss} : exs F (.cons s ss) env = sq (ex F s env) (fun e => exs F ss e) wt := by
  refine Eq.trans (z_consR) ?_
  (try simp only [bif_c])
  (try simp only [gu_if])
  (try rfl)
theorem z_pass : ex F .pass env = some (.next env) := by (rw [ex]) <;> first | rfl | (simp only [bind2, map2]; done) | (simp only [bind1, map1]; done) | (simp only [bind2, map2]; simp only [bind1, map1])
theorem z_wall : ex F .wall env = none := by (rw [ex]) <;> first | rfl | (simp only [bind2, map2]; done) | (simp only [bind1, map1]; done) | (simp only [bind2, map2]; simp only [bind1, map1])
theorem z_brk : ex F .brk env = some (.brk env) := by (rw [ex]) <;> first | rfl | (simp only [bind2, map2]; done) | (simp only [bind1, map1]; done) | (simp only [bind2, map2]; simp only [bind1, map1])
theorem z_retN : ex F .retN env = some (.ret (.sh .non) env) := by (rw [ex]) <;> first | rfl | (simp only [bind2, map2]; done) | (simp only [bind1, map1]; done) | (simp only [bind2, map2]; simp only [bind1, map1])
theorem z_setR {i : Nat} {a : E} : ex F (.set i a) env = bd20 (ev F a env) fun x e => bd20 (fixO e x) fun s e2 => some (.next (e2.set i (some s))) := by (rw [ex]) <;> first | rfl | (simp only [bind2, map2]; done) | (simp only [bind1, map1]; done) | (simp only [bind2, map2]; simp only [bind1, map1])
theorem z_set {i : Nat} {a : E} : ex F (.set i a) env = bd2 (ev F a env) (fun x e => bd2 (fixO e x) (fun s e2 => some (.next (e2.set i (some s)))) wt) wt := by
  refine Eq.trans (z_setR) ?_
  (try simp only [bif_c])
  (try simp only [gu_if])
  (try rfl)
theorem z_exprR {a : E} : ex F (.expr a) env = bd20 (ev F a env) fun x e => some (.next e) := by (rw [ex]) <;> first | rfl | (simp only [bind2, map2]; done) | (simp only [bind1, map1]; done) | (simp only [bind2, map2]; simp only [bind1, map1])
theorem z_expr {a : E} : ex F (.expr a) env = bd2 (ev F a env) (fun x e => some (.next e)) wt := by
  refine Eq.trans (z_exprR) ?_
  (try simp only [bif_c])
  (try simp only [gu_if])
  (try rfl)
theorem z_retR {l : List Nat} {a : E} : ex F (.ret l a) env = bd20 (ev F a env) fun x e => bd20 (fixR l e x) fun s e2 => some (.ret s e2) := by (rw [ex]) <;> first | rfl | (simp only [bind2, map2]; done) | (simp only [bind1, map1]; done) | (simp only [bind2, map2]; simp only [bind1, map1])
theorem z_ret {l : List Nat} {a : E} : ex F (.ret l a) env = bd2 (ev F a env) (fun x e => bd2 (fixR l e x) (fun s e2 => some (.ret s e2)) wt) wt := by
  refine Eq.trans (z_retR) ?_
  (try simp only [bif_c])
  (try simp only [gu_if])
  (try rfl)
theorem z_ifeR {c : T} {a b : Ss} : ex F (.ife c a b) env = bd20 (evT F c env) fun t e => if t = true then exs F a e else exs F b e := by
  rw [ex]
  rcases evT F c env with _ | ⟨t, e⟩
  · rfl
  cases t <;> rfl
theorem z_ife {c : T} {a b : Ss} : ex F (.ife c a b) env = bd2 (evT F c env) (fun t e => cond (t) (exs F a e) (exs F b e)) wt := by
  refine Eq.trans (z_ifeR) ?_
  (try simp only [bif_c])
  (try simp only [gu_if])
  (try rfl)
theorem z_forR {tg : Tg} {it : I} {b : Ss} : ex F (.for tg it b) env = bd20 (evI F it env) fun xs e => forL (forB F tg b) xs e := by
  rw [ex]
  rcases evI F it env with _ | ⟨xs, e⟩
  · rfl
  show forL (fun p e => (bindT tg p e).bind fun e1 => exs F b e1) xs e = forL (forB F tg b) xs e
  congr 1
  funext p e
  unfold forB
  rw [bind1]
theorem z_for {tg : Tg} {it : I} {b : Ss} : ex F (.for tg it b) env = bd2 (evI F it env) (fun xs e => forL (forB F tg b) xs e) wt := by
  refine Eq.trans (z_forR) ?_
  (try simp only [bif_c])
  (try simp only [gu_if])
  (try rfl)
theorem z_raise {c : Str} {a : E} : ex F (.raise c a) env = none := by rw [ex]
theorem z_orOR {j w : Nat} {a : E} : ex F (.orO j w a) env = bd20 (ev F a env) fun x e => orB j w e x := by
  rw [ex]
  rcases ev F a env with _ | ⟨x, e⟩ <;> rfl
theorem z_orO {j w : Nat} {a : E} : ex F (.orO j w a) env = bd2 (ev F a env) (fun x e => orB j w e x) wt := by
  refine Eq.trans (z_orOR) ?_
  (try simp only [bif_c])
  (try simp only [gu_if])
  (try rfl)
noncomputable def orK (j w i : Nat) (e : PEnv) (s : Sl) (z : Option Sl) : Option Fl := match s, z with
  | .own xs, some (.sh (.int a)) => if (i ≠ j ∧ i ≠ w) ∧ (j ≠ w ∧ (j < e.length ∧ w < e.length)) then bd0 (asInts xs) fun ns => some (.next (orE j w e a ns)) else none
  | _, _ => none
theorem orB_bR {j w i : Nat} {π : List Nat} : orB j w env (.b i π) = bd0 (slb env (.b i π)) fun s => orK j w i env s (env.getD j none) := by
  unfold orB orK
  rcases slb env (.b i π) with _ | s
  · rfl
  cases s <;> try rfl
  rcases env.getD j none with _ | t
  · rfl
  cases t <;> try rfl
  rename_i p
  cases p <;> try rfl
  show (if _ then (asInts _).map _ else none) = (if _ then _ else none)
  split
  · cases asInts _ <;> rfl
  · rfl
theorem orB_b {j w i : Nat} {π : List Nat} : orB j w env (.b i π) = bd (slb env (.b i π)) (fun s => orK j w i env s (env.getD j none)) wt := by
  refine Eq.trans (orB_bR) ?_
  (try simp only [bif_c])
  (try simp only [gu_if])
  (try rfl)
theorem orK_oR {j w i : Nat} {xs : List PV} {a : Int} : orK j w i env (.own xs) (some (.sh (.int a))) = if (i ≠ j ∧ i ≠ w) ∧ (j ≠ w ∧ (j < env.length ∧ w < env.length)) then bd0 (asInts xs) fun ns => some (.next (orE j w env a ns)) else none := rfl
theorem orK_o {j w i : Nat} {xs : List PV} {a : Int} : orK j w i env (.own xs) (some (.sh (.int a))) = gu ((i ≠ j ∧ i ≠ w) ∧ (j ≠ w ∧ (j < env.length ∧ w < env.length))) (bd (asInts xs) (fun ns => some (.next (orE j w env a ns))) wt) := by
  refine Eq.trans (orK_oR) ?_
  (try simp only [bif_c])
  (try simp only [gu_if])
  (try rfl)
theorem x_nil : exsX F .nil env = none := by rw [exsX]; intros; contradiction
theorem x_raise {c : Str} {a : E} {ss : Ss} : exsX F (.cons (.raise c a) ss) env = bd2 (ev F a env) (fun x e => bd2 (fix e x) (fun p e2 => some (c, p, e2)) wt) wt := by
  rw [exsX, exX]
  have h : ex F (.raise c a) env = none := z_raise
  rw [h]
  rcases ev F a env with _ | ⟨x, e⟩
  · rfl
  show (match (fix e x).map (fun q : PV × PEnv => ((c, q.1, q.2) : Xc)) with | some r => (some r : Option Xc) | none => (none : Option Fl).bind fun fl => match fl with | .next e => exsX F ss e | _ => none) = bd2 (fix e x) _ wt
  rcases fix e x with _ | ⟨p, e2⟩ <;> rfl
theorem x_ife {c : T} {a b ss : Ss} : exsX F (.cons (.ife c a b) ss) env = bd2 (evT F c env) (fun t e => cond t (orX (exsX F a e) (fun _ => sqX (exs F a e) (fun e2 => exsX F ss e2) wt) wt) (orX (exsX F b e) (fun _ => sqX (exs F b e) (fun e2 => exsX F ss e2) wt) wt)) wt := by
  rw [exsX, exX, ex]
  rcases evT F c env with _ | ⟨t, e⟩
  · rfl
  cases t
  · show (match exsX F b e with | some r => (some r : Option Xc) | none => (exs F b e).bind fun fl => match fl with | .next e => exsX F ss e | _ => none) = orX (exsX F b e) _ wt
    rcases exsX F b e with _ | r
    · rcases exs F b e with _ | _ | _ | _ <;> rfl
    · rfl
  · show (match exsX F a e with | some r => (some r : Option Xc) | none => (exs F a e).bind fun fl => match fl with | .next e => exsX F ss e | _ => none) = orX (exsX F a e) _ wt
    rcases exsX F a e with _ | r
    · rcases exs F a e with _ | _ | _ | _ <;> rfl
    · rfl
theorem x_pass  {ss : Ss} : exsX F (.cons (.pass) ss) env = sqX (ex F (.pass) env) (fun e => exsX F ss e) wt := by
  rw [exsX]
  have h : exX F (.pass) env = none := by simp only [exX]
  rw [h]
  show (ex F (.pass) env).bind _ = sqX (ex F (.pass) env) _ wt
  rcases ex F (.pass) env with _ | _ | _ | _ <;> rfl
theorem x_set {i : Nat} {a : E} {ss : Ss} : exsX F (.cons (.set i a) ss) env = sqX (ex F (.set i a) env) (fun e => exsX F ss e) wt := by
  rw [exsX]
  have h : exX F (.set i a) env = none := by simp only [exX]
  rw [h]
  show (ex F (.set i a) env).bind _ = sqX (ex F (.set i a) env) _ wt
  rcases ex F (.set i a) env with _ | _ | _ | _ <;> rfl
theorem x_expr {a : E} {ss : Ss} : exsX F (.cons (.expr a) ss) env = sqX (ex F (.expr a) env) (fun e => exsX F ss e) wt := by
  rw [exsX]
  have h : exX F (.expr a) env = none := by simp only [exX]
  rw [h]
  show (ex F (.expr a) env).bind _ = sqX (ex F (.expr a) env) _ wt
  rcases ex F (.expr a) env with _ | _ | _ | _ <;> rfl
noncomputable def forBX (F : Fns) (tg : Tg) (b : Ss) (p : PV) (e : PEnv) : Option Xc := bd0 (bindT tg p e) fun e1 => exsX F b e1
theorem forBX_eqR {tg : Tg} {b : Ss} {p : PV} : forBX F tg b p env = bd0 (bindT tg p env) fun e1 => exsX F b e1 := rfl
theorem forBX_eq {tg : Tg} {b : Ss} {p : PV} : forBX F tg b p env = bd (bindT tg p env) (fun e1 => exsX F b e1) wt := by
  refine Eq.trans (forBX_eqR) ?_
  (try simp only [bif_c])
  (try simp only [gu_if])
  (try rfl)
theorem x_for {tg : Tg} {it : I} {b : Ss} {ss : Ss} : exsX F (.cons (.for tg it b) ss) env = bd2 (evI F it env) (fun xs e => orX (forX (forB F tg b) (forBX F tg b) xs e) (fun _ => sqX (forL (forB F tg b) xs e) (fun e2 => exsX F ss e2) wt) wt) wt := by
  have f1 : (fun (p : PV) (e : PEnv) => (bindT tg p e).bind fun e1 => exs F b e1) = forB F tg b := by
    funext p e
    unfold forB
    rw [bind1]
  have f2 : (fun (p : PV) (e : PEnv) => (bindT tg p e).bind fun e1 => exsX F b e1) = forBX F tg b := by
    funext p e
    unfold forBX
    rw [bind1]
  rw [exsX, exX, ex, f1, f2]
  rcases evI F it env with _ | ⟨xs, e⟩
  · rfl
  show (match forX (forB F tg b) (forBX F tg b) xs e with | some r => (some r : Option Xc) | none => (forL (forB F tg b) xs e).bind fun fl => match fl with | .next e => exsX F ss e | _ => none) = orX (forX (forB F tg b) (forBX F tg b) xs e) _ wt
  rcases forX (forB F tg b) (forBX F tg b) xs e with _ | r
  · show (forL (forB F tg b) xs e).bind _ = sqX (forL (forB F tg b) xs e) _ wt
    rcases forL (forB F tg b) xs e with _ | _ | _ | _ <;> rfl
  · rfl
theorem x_app {o a : E} {ss : Ss} : exsX F (.cons (.app o a) ss) env = sqX (ex F (.app o a) env) (fun e => exsX F ss e) wt := by
  rw [exsX]
  have h : exX F (.app o a) env = none := by simp only [exX]
  rw [h]
  show (ex F (.app o a) env).bind _ = sqX (ex F (.app o a) env) _ wt
  rcases ex F (.app o a) env with _ | _ | _ | _ <;> rfl
theorem z_appR {o a : E} : ex F (.app o a) env = bd20 (ev F o env) fun x e => if (gd x (calmE a) && isOwn (slb e x)) = true then bd20 (ev F a e) fun y e2 => bd20 (fix e2 y) fun p e3 => bd0 (appB e3 x p) fun e4 => some (.next e4) else none := by (rw [ex]) <;> first | rfl | (simp only [bind2, map2]; done) | (simp only [bind1, map1]; done) | (simp only [bind2, map2]; simp only [bind1, map1])
theorem z_app {o a : E} : ex F (.app o a) env = bd2 (ev F o env) (fun x e => cond ((gd x (calmE a) && isOwn (slb e x))) (bd2 (ev F a e) (fun y e2 => bd2 (fix e2 y) (fun p e3 => bd (appB e3 x p) (fun e4 => some (.next e4)) wt) wt) wt) (none)) wt := by
  refine Eq.trans (z_appR) ?_
  (try simp only [bif_c])
  (try simp only [gu_if])
  (try rfl)
theorem z_stxR {o k a : E} : ex F (.stx o k a) env = bd20 (ev F a env) fun x e => bd20 (fix e x) fun p e2 => bd20 (ev F o e2) fun y e3 => if gd y (calmE k) = true then bd20 (ev F k e3) fun v e4 => bd20 (fix e4 v) fun q e5 => bd0 (stxB e5 y q p) fun e6 => some (.next e6) else none := by (rw [ex]) <;> first | rfl | (simp only [bind2, map2]; done) | (simp only [bind1, map1]; done) | (simp only [bind2, map2]; simp only [bind1, map1])
theorem z_stx {o k a : E} : ex F (.stx o k a) env = bd2 (ev F a env) (fun x e => bd2 (fix e x) (fun p e2 => bd2 (ev F o e2) (fun y e3 => cond (gd y (calmE k)) (bd2 (ev F k e3) (fun v e4 => bd2 (fix e4 v) (fun q e5 => bd (stxB e5 y q p) (fun e6 => some (.next e6)) wt) wt) wt) (none)) wt) wt) wt := by
  refine Eq.trans (z_stxR) ?_
  (try simp only [bif_c])
  (try simp only [gu_if])
  (try rfl)
theorem z_popR {o : E} : ex F (.pop o) env = bd20 (ev F o env) fun x e => bd0 (popB e x) fun e2 => some (.next e2) := by (rw [ex]) <;> first | rfl | (simp only [bind2, map2]; done) | (simp only [bind1, map1]; done) | (simp only [bind2, map2]; simp only [bind1, map1])
theorem z_pop {o : E} : ex F (.pop o) env = bd2 (ev F o env) (fun x e => bd (popB e x) (fun e2 => some (.next e2)) wt) wt := by
  refine Eq.trans (z_popR) ?_
  (try simp only [bif_c])
  (try simp only [gu_if])
  (try rfl)
theorem z_fldR {o a : E} {f : Str} {cs : List Str} : ex F (.fld o f cs a) env = bd20 (ev F a env) fun x e => bd20 (fixO e x) fun s e2 => bd20 (ev F o e2) fun y e3 => bd0 (fldB e3 y f cs s) fun e4 => some (.next e4) := by (rw [ex]) <;> first | rfl | (simp only [bind2, map2]; done) | (simp only [bind1, map1]; done) | (simp only [bind2, map2]; simp only [bind1, map1])
theorem z_fld {o a : E} {f : Str} {cs : List Str} : ex F (.fld o f cs a) env = bd2 (ev F a env) (fun x e => bd2 (fixO e x) (fun s e2 => bd2 (ev F o e2) (fun y e3 => bd (fldB e3 y f cs s) (fun e4 => some (.next e4)) wt) wt) wt) wt := by
  refine Eq.trans (z_fldR) ?_
  (try simp only [bif_c])
  (try simp only [gu_if])
  (try rfl)
theorem sx0 {x0 v : PV} {l : List PV} : List.set (x0 :: l) 0 v = v :: l := rfl
theorem sx1 {x0 x1 v : PV} {l : List PV} : List.set (x0 :: x1 :: l) 1 v = x0 :: v :: l := rfl
theorem sx2 {x0 x1 x2 v : PV} {l : List PV} : List.set (x0 :: x1 :: x2 :: l) 2 v = x0 :: x1 :: v :: l := rfl
theorem sx3 {x0 x1 x2 x3 v : PV} {l : List PV} : List.set (x0 :: x1 :: x2 :: x3 :: l) 3 v = x0 :: x1 :: x2 :: v :: l := rfl
theorem sx4 {x0 x1 x2 x3 x4 v : PV} {l : List PV} : List.set (x0 :: x1 :: x2 :: x3 :: x4 :: l) 4 v = x0 :: x1 :: x2 :: x3 :: v :: l := rfl
theorem ixl3_0 : ixN 3 0 = some 0 := rfl
theorem ixpPV3_0 {x0 x1 x2 : PV} : ixN [x0, x1, x2].length 0 = some 0 := rfl
theorem ixpSl3_0 {x0 x1 x2 : Sl} : ixN [x0, x1, x2].length 0 = some 0 := rfl
theorem ixl3_1 : ixN 3 1 = some 1 := rfl
theorem ixpPV3_1 {x0 x1 x2 : PV} : ixN [x0, x1, x2].length 1 = some 1 := rfl
theorem ixpSl3_1 {x0 x1 x2 : Sl} : ixN [x0, x1, x2].length 1 = some 1 := rfl
theorem ixl3_2 : ixN 3 2 = some 2 := rfl
theorem ixpPV3_2 {x0 x1 x2 : PV} : ixN [x0, x1, x2].length 2 = some 2 := rfl
theorem ixpSl3_2 {x0 x1 x2 : Sl} : ixN [x0, x1, x2].length 2 = some 2 := rfl
theorem ixl4_0 : ixN 4 0 = some 0 := rfl
theorem ixpPV4_0 {x0 x1 x2 x3 : PV} : ixN [x0, x1, x2, x3].length 0 = some 0 := rfl
theorem ixpSl4_0 {x0 x1 x2 x3 : Sl} : ixN [x0, x1, x2, x3].length 0 = some 0 := rfl
theorem ixl4_1 : ixN 4 1 = some 1 := rfl
theorem ixpPV4_1 {x0 x1 x2 x3 : PV} : ixN [x0, x1, x2, x3].length 1 = some 1 := rfl
theorem ixpSl4_1 {x0 x1 x2 x3 : Sl} : ixN [x0, x1, x2, x3].length 1 = some 1 := rfl
theorem ixl4_2 : ixN 4 2 = some 2 := rfl
theorem ixpPV4_2 {x0 x1 x2 x3 : PV} : ixN [x0, x1, x2, x3].length 2 = some 2 := rfl
theorem ixpSl4_2 {x0 x1 x2 x3 : Sl} : ixN [x0, x1, x2, x3].length 2 = some 2 := rfl
theorem ixl4_3 : ixN 4 3 = some 3 := rfl
theorem ixpPV4_3 {x0 x1 x2 x3 : PV} : ixN [x0, x1, x2, x3].length 3 = some 3 := rfl
theorem ixpSl4_3 {x0 x1 x2 x3 : Sl} : ixN [x0, x1, x2, x3].length 3 = some 3 := rfl
theorem calms_nil : calmEs .nil = true := by first | rfl | (rw [calmE]) | (rw [calmEs])
theorem calms_cons {e : E} {es : Es} : calmEs (.cons e es) = (calmE e && calmEs es) := by first | rfl | (rw [calmE]) | (rw [calmEs])
theorem calm_var {i : Nat} : calmE (.var i) = true := by first | rfl | (rw [calmE]) | (rw [calmEs])
theorem calm_int {i : Int} : calmE (.int i) = true := by first | rfl | (rw [calmE]) | (rw [calmEs])
theorem calm_str {i : Str} : calmE (.str i) = true := by first | rfl | (rw [calmE]) | (rw [calmEs])
theorem calm_bl {i : Bool} : calmE (.bl i) = true := by first | rfl | (rw [calmE]) | (rw [calmEs])
theorem calm_non : calmE .non = true := by first | rfl | (rw [calmE]) | (rw [calmEs])
theorem calm_bin {op : Operator} {a b : E} : calmE (.bin op a b) = (calmE a && calmE b) := by first | rfl | (rw [calmE]) | (rw [calmEs])
theorem calm_cmp {op : CmpOp} {a b : E} : calmE (.cmp op a b) = (calmE a && calmE b) := by first | rfl | (rw [calmE]) | (rw [calmEs])
theorem calm_neg {a : E} : calmE (.neg a) = calmE a := by first | rfl | (rw [calmE]) | (rw [calmEs])
theorem calm_ix {a b : E} : calmE (.ix a b) = (calmE a && calmE b) := by first | rfl | (rw [calmE]) | (rw [calmEs])
theorem calm_tup {es : Es} : calmE (.tup es) = calmEs es := by first | rfl | (rw [calmE]) | (rw [calmEs])
theorem calm_lst {es : Es} : calmE (.lst es) = calmEs es := by first | rfl | (rw [calmE]) | (rw [calmEs])
theorem calm_call {g : Nat} {es : Es} : calmE (.call g es) = calmEs es := by first | rfl | (rw [calmE]) | (rw [calmEs])
theorem calm_blt {g : String} {es : Es} : calmE (.blt g es) = calmEs es := by first | rfl | (rw [calmE]) | (rw [calmEs])
theorem isOwn_own {p : List PV} : isOwn (some (.own p)) = true := rfl
theorem isOwn_sh {p : PV} : isOwn (some (.sh p)) = false := rfl
theorem appB_eR {i : Nat} {π : List Nat} {p : PV} : appB env (.b i π) p = bd0 (slb env (.b i π)) fun s => bd0 (ownO s) fun xs => if xs.length < 16777216 then some (setP env i π (.own (xs ++ [p]))) else none := by
  unfold appB
  rcases h : slb env (.b i π) with _ | s
  · rfl
  (try simp only [Option.bind_some, Option.bind_none, Option.map_some, Option.map_none, bd20, bd0])
  cases s <;> rfl
theorem appB_e {i : Nat} {π : List Nat} {p : PV} : appB env (.b i π) p = bd (slb env (.b i π)) (fun s => bd (ownO s) (fun xs => gu (xs.length < 16777216) (some (setP env i π (.own (xs ++ [p]))))) wt) wt := by
  refine Eq.trans (appB_eR) ?_
  (try simp only [bif_c])
  (try simp only [gu_if])
  (try rfl)
theorem popB_eR {i : Nat} {π : List Nat} : popB env (.b i π) = bd0 (slb env (.b i π)) fun s => bd0 (ownO s) fun xs => if xs.length = 0 then none else some (setP env i π (.own xs.dropLast)) := by
  unfold popB
  rcases h : slb env (.b i π) with _ | s
  · rfl
  (try simp only [Option.bind_some, Option.bind_none, Option.map_some, Option.map_none, bd20, bd0])
  cases s <;> rfl
theorem popB_e {i : Nat} {π : List Nat} : popB env (.b i π) = bd (slb env (.b i π)) (fun s => bd (ownO s) (fun xs => if xs.length = 0 then none else some (setP env i π (.own xs.dropLast))) wt) wt := by
  refine Eq.trans (popB_eR) ?_
  (try simp only [bif_c])
  (try simp only [gu_if])
  (try rfl)
noncomputable def stxS (env : PEnv) (i : Nat) (π : List Nat) (k p : PV) : Sl → Option PEnv
  | .own xs => bd0 (intO k) fun n => bd0 (ixN xs.length n) fun j => some (setP env i π (.own (xs.set j p)))
  | .dct t kvs => if okKey t k = true then if kvs.length < 16777216 then some (setP env i π (.dct t (dPut k p kvs))) else none else none
  | _ => none
theorem stxB_eR {i : Nat} {π : List Nat} {k p : PV} : stxB env (.b i π) k p = bd0 (slb env (.b i π)) fun s => stxS env i π k p s := by
  unfold stxB stxS
  rcases slb env (.b i π) with _ | s
  · rfl
  (try simp only [Option.bind_some, Option.bind_none, Option.map_some, Option.map_none, bd20, bd0])
  cases s with
  | own xs => cases k <;> first | rfl | (rename_i n; dsimp only [intO]; cases ixN xs.length n <;> rfl)
  | dct t kvs =>
    (try simp only [Option.bind_some, Option.bind_none, Option.map_some, Option.map_none, bd20, bd0])
    by_cases h1 : okKey t k = true
    · by_cases h2 : kvs.length < 16777216
      · rw [if_pos (by rw [Bool.and_eq_true]; exact ⟨h1, decide_eq_true h2⟩), if_pos h1, if_pos h2]
      · rw [if_neg (by rw [Bool.and_eq_true, decide_eq_true_eq]; exact fun z => h2 z.2), if_pos h1, if_neg h2]
    · rw [if_neg (by rw [Bool.and_eq_true]; exact fun z => h1 z.1), if_neg h1]
  | _ => rfl
theorem stxB_e {i : Nat} {π : List Nat} {k p : PV} : stxB env (.b i π) k p = bd (slb env (.b i π)) (fun s => stxS env i π k p s) wt := by
  refine Eq.trans (stxB_eR) ?_
  (try simp only [bif_c])
  (try simp only [gu_if])
  (try rfl)
theorem stxS_ownR {i : Nat} {π : List Nat} {n : Int} {p : PV} {xs : List PV} : stxS env i π (.int n) p (.own xs) = bd0 (ixN xs.length n) fun j => some (setP env i π (.own (xs.set j p))) := rfl
theorem stxS_own {i : Nat} {π : List Nat} {n : Int} {p : PV} {xs : List PV} : stxS env i π (.int n) p (.own xs) = bd (ixN xs.length n) (fun j => some (setP env i π (.own (xs.set j p)))) wt := by
  refine Eq.trans (stxS_ownR) ?_
  (try simp only [bif_c])
  (try simp only [gu_if])
  (try rfl)
theorem stxS_dctR {i : Nat} {π : List Nat} {k p : PV} {t : Nat} {kvs : List (PV × PV)} : stxS env i π k p (.dct t kvs) = if okKey t k = true then if kvs.length < 16777216 then some (setP env i π (.dct t (dPut k p kvs))) else none else none := rfl
theorem stxS_dct {i : Nat} {π : List Nat} {k p : PV} {t : Nat} {kvs : List (PV × PV)} : stxS env i π k p (.dct t kvs) = cond (okKey t k) (gu (kvs.length < 16777216) (some (setP env i π (.dct t (dPut k p kvs))))) (none) := by
  refine Eq.trans (stxS_dctR) ?_
  (try simp only [bif_c])
  (try simp only [gu_if])
  (try rfl)
noncomputable def fldN (c f : Str) (ns : List Str) (xs : List Sl) (s : Sl) : Option Nat → Sl
  | some n => .ins c ns (xs.set n s)
  | none => .ins c (ns ++ [f]) (xs ++ [s])
noncomputable def fldS (env : PEnv) (i : Nat) (π : List Nat) (f : Str) (cs : List Str) (s : Sl) : Sl → Option PEnv
  | .ins c ns xs => if cs.contains c = true then if ns.length < 1000 then some (setP env i π (fldN c f ns xs s (posS ns f))) else none else none
  | _ => none
theorem fldB_eR {i : Nat} {π : List Nat} {f : Str} {cs : List Str} {s : Sl} : fldB env (.b i π) f cs s = bd0 (slb env (.b i π)) fun t => fldS env i π f cs s t := by
  unfold fldB fldS
  rcases slb env (.b i π) with _ | t
  · rfl
  (try simp only [Option.bind_some, Option.bind_none, Option.map_some, Option.map_none, bd20, bd0])
  cases t with
  | ins c ns xs =>
    (try simp only [Option.bind_some, Option.bind_none, Option.map_some, Option.map_none, bd20, bd0])
    by_cases h1 : cs.contains c = true
    · by_cases h2 : ns.length < 1000
      · rw [if_pos (by rw [Bool.and_eq_true]; exact ⟨h1, decide_eq_true h2⟩), if_pos h1, if_pos h2]; cases posS ns f <;> rfl
      · rw [if_neg (by rw [Bool.and_eq_true, decide_eq_true_eq]; exact fun z => h2 z.2), if_pos h1, if_neg h2]
    · rw [if_neg (by rw [Bool.and_eq_true]; exact fun z => h1 z.1), if_neg h1]
  | _ => rfl
theorem fldB_e {i : Nat} {π : List Nat} {f : Str} {cs : List Str} {s : Sl} : fldB env (.b i π) f cs s = bd (slb env (.b i π)) (fun t => fldS env i π f cs s t) wt := by
  refine Eq.trans (fldB_eR) ?_
  (try simp only [bif_c])
  (try simp only [gu_if])
  (try rfl)
theorem fldS_insR {i : Nat} {π : List Nat} {f : Str} {cs : List Str} {s : Sl} {c : Str} {ns : List Str} {xs : List Sl} : fldS env i π f cs s (.ins c ns xs) = if cs.contains c = true then if ns.length < 1000 then some (setP env i π (fldN c f ns xs s (posS ns f))) else none else none := rfl
theorem fldS_ins {i : Nat} {π : List Nat} {f : Str} {cs : List Str} {s : Sl} {c : Str} {ns : List Str} {xs : List Sl} : fldS env i π f cs s (.ins c ns xs) = cond (cs.contains c) (gu (ns.length < 1000) (some (setP env i π (fldN c f ns xs s (posS ns f))))) (none) := by
  refine Eq.trans (fldS_insR) ?_
  (try simp only [bif_c])
  (try simp only [gu_if])
  (try rfl)
theorem fldN_s {c f : Str} {ns : List Str} {xs : List Sl} {s : Sl} {n : Nat} : fldN c f ns xs s (some n) = .ins c ns (xs.set n s) := rfl
theorem fldN_n {c f : Str} {ns : List Str} {xs : List Sl} {s : Sl} : fldN c f ns xs s none = .ins c (ns ++ [f]) (xs ++ [s]) := rfl
theorem p_Add {i j : Int} : bin2 .Add (.int i) (.int j) = some (.sh (.int (i + j))) := rfl
theorem p_Sub {i j : Int} : bin2 .Sub (.int i) (.int j) = some (.sh (.int (i - j))) := rfl
theorem p_BitAnd {i j : Int} : bin2 .BitAnd (.int i) (.int j) = some (.sh (.int (Builtin.bitAnd i j))) := rfl
theorem p_BitOr {i j : Int} : bin2 .BitOr (.int i) (.int j) = some (.sh (.int (Builtin.bitOr i j))) := rfl
theorem p_BitXor {i j : Int} : bin2 .BitXor (.int i) (.int j) = some (.sh (.int (Builtin.bitXor i j))) := rfl
theorem p_MultR {i j : Int} : bin2 .Mult (.int i) (.int j) = if (-18446744073709551616 < i ∧ i < 18446744073709551616) ∨ (-18446744073709551616 < j ∧ j < 18446744073709551616) then some (.sh (.int (i * j))) else none := by
  show (if (small i || small j) = true then some (Sl.sh (.int (i * j))) else none) = _
  have e : ((small i || small j) = true) ↔ ((-18446744073709551616 < i ∧ i < 18446744073709551616) ∨ (-18446744073709551616 < j ∧ j < 18446744073709551616)) := by simp only [small, Bool.or_eq_true, decide_eq_true_eq]; omega
  by_cases h : (small i || small j) = true
  · rw [if_pos h] <;> rw [if_pos (e.mp h)]
  · rw [if_neg h] <;> rw [if_neg fun z => h (e.mpr z)]
theorem p_Mult {i j : Int} : bin2 .Mult (.int i) (.int j) = gu ((-18446744073709551616 < i ∧ i < 18446744073709551616) ∨ (-18446744073709551616 < j ∧ j < 18446744073709551616)) (some (.sh (.int (i * j)))) := by
  refine Eq.trans (p_MultR) ?_
  (try simp only [bif_c])
  (try simp only [gu_if])
  (try rfl)
theorem p_FloorDivR {i j : Int} : bin2 .FloorDiv (.int i) (.int j) = if j ≠ 0 ∧ -1073741824 < j ∧ j < 1073741824 then some (.sh (.int (i.fdiv j))) else none := by
  show (if j ≠ 0 ∧ j.natAbs < 1073741824 then some (Sl.sh (.int (i.fdiv j))) else none) = _
  have e : (j ≠ 0 ∧ j.natAbs < 1073741824) ↔ (j ≠ 0 ∧ -1073741824 < j ∧ j < 1073741824) := by omega
  by_cases h : j ≠ 0 ∧ j.natAbs < 1073741824
  · rw [if_pos h] <;> rw [if_pos (e.mp h)]
  · rw [if_neg h] <;> rw [if_neg fun z => h (e.mpr z)]
theorem p_FloorDiv {i j : Int} : bin2 .FloorDiv (.int i) (.int j) = gu (j ≠ 0 ∧ -1073741824 < j ∧ j < 1073741824) (some (.sh (.int (i.fdiv j)))) := by
  refine Eq.trans (p_FloorDivR) ?_
  (try simp only [bif_c])
  (try simp only [gu_if])
  (try rfl)
theorem p_PowR {i j : Int} : bin2 .Pow (.int i) (.int j) = if 0 ≤ j ∧ j ≤ 1000000 ∧ -18446744073709551616 < i ∧ i < 18446744073709551616 then some (.sh (.int (i ^ j.toNat))) else none := by
  show (if 0 ≤ j ∧ j ≤ 1000000 ∧ i.natAbs < 2 ^ 64 then some (Sl.sh (.int (i ^ j.toNat))) else none) = _
  have e : (0 ≤ j ∧ j ≤ 1000000 ∧ i.natAbs < 2 ^ 64) ↔ (0 ≤ j ∧ j ≤ 1000000 ∧ -18446744073709551616 < i ∧ i < 18446744073709551616) := by omega
  by_cases h : 0 ≤ j ∧ j ≤ 1000000 ∧ i.natAbs < 2 ^ 64
  · rw [if_pos h] <;> rw [if_pos (e.mp h)]
  · rw [if_neg h] <;> rw [if_neg fun z => h (e.mpr z)]
theorem p_Pow {i j : Int} : bin2 .Pow (.int i) (.int j) = gu (0 ≤ j ∧ j ≤ 1000000 ∧ -18446744073709551616 < i ∧ i < 18446744073709551616) (some (.sh (.int (i ^ j.toNat)))) := by
  refine Eq.trans (p_PowR) ?_
  (try simp only [bif_c])
  (try simp only [gu_if])
  (try rfl)
theorem p_LShiftR {i j : Int} : bin2 .LShift (.int i) (.int j) = if 0 ≤ j ∧ j ≤ 1000000 ∧ -18446744073709551616 < i ∧ i < 18446744073709551616 then some (.sh (.int (i * 2 ^ j.toNat))) else none := by
  show (if 0 ≤ j ∧ j ≤ 1000000 ∧ i.natAbs < 2 ^ 64 then some (Sl.sh (.int (i * 2 ^ j.toNat))) else none) = _
  have e : (0 ≤ j ∧ j ≤ 1000000 ∧ i.natAbs < 2 ^ 64) ↔ (0 ≤ j ∧ j ≤ 1000000 ∧ -18446744073709551616 < i ∧ i < 18446744073709551616) := by omega
  by_cases h : 0 ≤ j ∧ j ≤ 1000000 ∧ i.natAbs < 2 ^ 64
  · rw [if_pos h] <;> rw [if_pos (e.mp h)]
  · rw [if_neg h] <;> rw [if_neg fun z => h (e.mpr z)]
theorem p_LShift {i j : Int} : bin2 .LShift (.int i) (.int j) = gu (0 ≤ j ∧ j ≤ 1000000 ∧ -18446744073709551616 < i ∧ i < 18446744073709551616) (some (.sh (.int (i * 2 ^ j.toNat)))) := by
  refine Eq.trans (p_LShiftR) ?_
  (try simp only [bif_c])
  (try simp only [gu_if])
  (try rfl)
theorem p_RShiftR {i j : Int} : bin2 .RShift (.int i) (.int j) = if 0 ≤ j then some (.sh (.int (i / 2 ^ j.toNat))) else none := by
  show (if 0 ≤ j then some (Sl.sh (.int (i / 2 ^ j.toNat))) else none) = _
  have e : (0 ≤ j) ↔ (0 ≤ j) := by exact Iff.rfl
  by_cases h : 0 ≤ j
  · rw [if_pos h] <;> rw [if_pos (e.mp h)]
  · rw [if_neg h] <;> rw [if_neg fun z => h (e.mpr z)]
theorem p_RShift {i j : Int} : bin2 .RShift (.int i) (.int j) = gu (0 ≤ j) (some (.sh (.int (i / 2 ^ j.toNat)))) := by
  refine Eq.trans (p_RShiftR) ?_
  (try simp only [bif_c])
  (try simp only [gu_if])
  (try rfl)
theorem p_ModR {i j : Int} : bin2 .Mod (.int i) (.int j) = if j ≠ 0 then some (.sh (.int (i.fmod j))) else none := rfl
theorem p_Mod {i j : Int} : bin2 .Mod (.int i) (.int j) = gu (j ≠ 0) (some (.sh (.int (i.fmod j)))) := by
  refine Eq.trans (p_ModR) ?_
  (try simp only [bif_c])
  (try simp only [gu_if])
  (try rfl)
theorem p_Mult_strR {s : Str} {j : Int} : bin2 .Mult (.str s) (.int j) = if 0 ≤ j ∧ j ≤ 1000 ∧ s.length ≤ 1000 then some (.sh (.str (repS s j))) else none := rfl
theorem p_Mult_str {s : Str} {j : Int} : bin2 .Mult (.str s) (.int j) = gu (0 ≤ j ∧ j ≤ 1000 ∧ s.length ≤ 1000) (some (.sh (.str (repS s j)))) := by
  refine Eq.trans (p_Mult_strR) ?_
  (try simp only [bif_c])
  (try simp only [gu_if])
  (try rfl)
theorem p_Add_strR {s t : Str} : bin2 .Add (.str s) (.str t) = if s.length + t.length ≤ 16777216 then some (.sh (.str (s ++ t))) else none := rfl
theorem p_Add_str {s t : Str} : bin2 .Add (.str s) (.str t) = gu (s.length + t.length ≤ 16777216) (some (.sh (.str (s ++ t)))) := by
  refine Eq.trans (p_Add_strR) ?_
  (try simp only [bif_c])
  (try simp only [gu_if])
  (try rfl)
theorem p_Add_lstR {s t : List PV} : bin2 .Add (.lst s) (.lst t) = if s.length + t.length ≤ 16777216 then some (.own (s ++ t)) else none := rfl
theorem p_Add_lst {s t : List PV} : bin2 .Add (.lst s) (.lst t) = gu (s.length + t.length ≤ 16777216) (some (.own (s ++ t))) := by
  refine Eq.trans (p_Add_lstR) ?_
  (try simp only [bif_c])
  (try simp only [gu_if])
  (try rfl)
theorem p_Add_tupR {s t : List PV} : bin2 .Add (.tup s) (.tup t) = if s.length + t.length ≤ 16777216 then some (.sh (.tup (s ++ t))) else none := rfl
theorem p_Add_tup {s t : List PV} : bin2 .Add (.tup s) (.tup t) = gu (s.length + t.length ≤ 16777216) (some (.sh (.tup (s ++ t)))) := by
  refine Eq.trans (p_Add_tupR) ?_
  (try simp only [bif_c])
  (try simp only [gu_if])
  (try rfl)
theorem q_Lt {i j : Int} : cmp2 .Lt (.int i) (.int j) = some (decide (i < j)) := rfl
theorem q_LtE {i j : Int} : cmp2 .LtE (.int i) (.int j) = some (decide (i ≤ j)) := rfl
theorem q_Gt {i j : Int} : cmp2 .Gt (.int i) (.int j) = some (decide (j < i)) := rfl
theorem q_GtE {i j : Int} : cmp2 .GtE (.int i) (.int j) = some (decide (j ≤ i)) := rfl
theorem q_Eq {p q : PV} : cmp2 .Eq p q = eq2 p q := rfl
theorem q_NotEqR {p q : PV} : cmp2 .NotEq p q = bd0 (eq2 p q) fun b => some (!b) := by show (eq2 p q).map _ = _; cases eq2 p q <;> rfl
theorem q_NotEq {p q : PV} : cmp2 .NotEq p q = bd (eq2 p q) (fun b => some (!b)) wt := by
  refine Eq.trans (q_NotEqR) ?_
  (try simp only [bif_c])
  (try simp only [gu_if])
  (try rfl)
theorem q_In {p q : PV} : cmp2 .In p q = in2 p q := rfl
theorem q_NotInR {p q : PV} : cmp2 .NotIn p q = bd0 (in2 p q) fun b => some (!b) := by show (in2 p q).map _ = _; cases in2 p q <;> rfl
theorem q_NotIn {p q : PV} : cmp2 .NotIn p q = bd (in2 p q) (fun b => some (!b)) wt := by
  refine Eq.trans (q_NotInR) ?_
  (try simp only [bif_c])
  (try simp only [gu_if])
  (try rfl)
theorem e_int {i j : Int} : eq2 (.int i) (.int j) = some (decide (i = j)) := rfl
theorem e_str {i j : Str} : eq2 (.str i) (.str j) = some (decide (i = j)) := rfl
theorem e_bl {i j : Bool} : eq2 (.bl i) (.bl j) = some (decide (i = j)) := rfl
theorem e_int_str {i : Int} {j : Str} : eq2 (.int i) (.str j) = some false := rfl
theorem e_int_non {i : Int} : eq2 (.int i) .non = some false := rfl
theorem e_non_int {i : Int} : eq2 .non (.int i) = some false := rfl
theorem e_str_int {i : Str} {j : Int} : eq2 (.str i) (.int j) = some false := rfl
theorem e_str_bl {i : Str} {j : Bool} : eq2 (.str i) (.bl j) = some false := rfl
theorem e_str_non {i : Str} : eq2 (.str i) .non = some false := rfl
theorem e_non_str {i : Str} : eq2 .non (.str i) = some false := rfl
theorem e_bl_str {i : Bool} {j : Str} : eq2 (.bl i) (.str j) = some false := rfl
theorem e_bl_non {i : Bool} : eq2 (.bl i) .non = some false := rfl
theorem e_non_bl {i : Bool} : eq2 .non (.bl i) = some false := rfl
theorem e_non_non : eq2 .non .non = some true := rfl
theorem q_Is_int {i : Int} : cmp2 .Is (.int i) .non = some false := rfl
theorem q_IsNot_int {i : Int} : cmp2 .IsNot (.int i) .non = some true := rfl
theorem q_Is_str {i : Str} : cmp2 .Is (.str i) .non = some false := rfl
theorem q_IsNot_str {i : Str} : cmp2 .IsNot (.str i) .non = some true := rfl
theorem q_Is_bl {i : Bool} : cmp2 .Is (.bl i) .non = some false := rfl
theorem q_IsNot_bl {i : Bool} : cmp2 .IsNot (.bl i) .non = some true := rfl
theorem q_Is_tup {i : List PV} : cmp2 .Is (.tup i) .non = some false := rfl
theorem q_IsNot_tup {i : List PV} : cmp2 .IsNot (.tup i) .non = some true := rfl
theorem q_Is_lst {i : List PV} : cmp2 .Is (.lst i) .non = some false := rfl
theorem q_IsNot_lst {i : List PV} : cmp2 .IsNot (.lst i) .non = some true := rfl
theorem q_Is_non : cmp2 .Is (.non) .non = some true := rfl
theorem q_IsNot_non : cmp2 .IsNot (.non) .non = some false := rfl
theorem q_Is_exc {c f : Str} {p : PV} : cmp2 .Is (.exc c f p) .non = some false := rfl
theorem q_IsNot_exc {c f : Str} {p : PV} : cmp2 .IsNot (.exc c f p) .non = some true := rfl
theorem tr_bl' {b : Bool} : truth (.bl b) = some b := rfl
theorem tr_int' {b : Int} : truth (.int b) = some (!decide (b = 0)) := rfl
theorem tr_lst' {b : List PV} : truth (.lst b) = some (decide (0 < b.length)) := by cases b <;> rfl
theorem tr_tup' {b : List PV} : truth (.tup b) = some (decide (0 < b.length)) := by cases b <;> rfl
theorem tr_non' : truth .non = some false := rfl
theorem x_lst' {xs : List PV} {i : Int} : ix2 (.lst xs) (.int i) = atI xs i := rfl
theorem x_tup' {xs : List PV} {i : Int} : ix2 (.tup xs) (.int i) = atI xs i := rfl
theorem x_dct'R {t : Nat} {kvs : List (PV × PV)} {k : PV} : ix2 (.dct t kvs) k = if okKey t k = true then dFind k kvs else none := rfl
theorem x_dct' {t : Nat} {kvs : List (PV × PV)} {k : PV} : ix2 (.dct t kvs) k = cond (okKey t k) (dFind k kvs) (none) := by
  refine Eq.trans (x_dct'R) ?_
  (try simp only [bif_c])
  (try simp only [gu_if])
  (try rfl)
theorem ai_0 {x0 : PV} {l : List PV} : atI (x0 :: l) 0 = some x0 := by
  unfold atI ixN
  rw [if_pos (by decide), if_pos (by simp only [List.length_cons]; omega)]
  rfl
theorem ai_1 {x0 x1 : PV} {l : List PV} : atI (x0 :: x1 :: l) 1 = some x1 := by
  unfold atI ixN
  rw [if_pos (by decide), if_pos (by simp only [List.length_cons]; omega)]
  rfl
theorem ai_2 {x0 x1 x2 : PV} {l : List PV} : atI (x0 :: x1 :: x2 :: l) 2 = some x2 := by
  unfold atI ixN
  rw [if_pos (by decide), if_pos (by simp only [List.length_cons]; omega)]
  rfl
theorem ai_3 {x0 x1 x2 x3 : PV} {l : List PV} : atI (x0 :: x1 :: x2 :: x3 :: l) 3 = some x3 := by
  unfold atI ixN
  rw [if_pos (by decide), if_pos (by simp only [List.length_cons]; omega)]
  rfl
theorem ai_4 {x0 x1 x2 x3 x4 : PV} {l : List PV} : atI (x0 :: x1 :: x2 :: x3 :: x4 :: l) 4 = some x4 := by
  unfold atI ixN
  rw [if_pos (by decide), if_pos (by simp only [List.length_cons]; omega)]
  rfl
theorem ai_5 {x0 x1 x2 x3 x4 x5 : PV} {l : List PV} : atI (x0 :: x1 :: x2 :: x3 :: x4 :: x5 :: l) 5 = some x5 := by
  unfold atI ixN
  rw [if_pos (by decide), if_pos (by simp only [List.length_cons]; omega)]
  rfl
theorem ai_6 {x0 x1 x2 x3 x4 x5 x6 : PV} {l : List PV} : atI (x0 :: x1 :: x2 :: x3 :: x4 :: x5 :: x6 :: l) 6 = some x6 := by
  unfold atI ixN
  rw [if_pos (by decide), if_pos (by simp only [List.length_cons]; omega)]
  rfl
theorem ai_7 {x0 x1 x2 x3 x4 x5 x6 x7 : PV} {l : List PV} : atI (x0 :: x1 :: x2 :: x3 :: x4 :: x5 :: x6 :: x7 :: l) 7 = some x7 := by
  unfold atI ixN
  rw [if_pos (by decide), if_pos (by simp only [List.length_cons]; omega)]
  rfl
theorem ai_8 {x0 x1 x2 x3 x4 x5 x6 x7 x8 : PV} {l : List PV} : atI (x0 :: x1 :: x2 :: x3 :: x4 :: x5 :: x6 :: x7 :: x8 :: l) 8 = some x8 := by
  unfold atI ixN
  rw [if_pos (by decide), if_pos (by simp only [List.length_cons]; omega)]
  rfl
theorem ai_9 {x0 x1 x2 x3 x4 x5 x6 x7 x8 x9 : PV} {l : List PV} : atI (x0 :: x1 :: x2 :: x3 :: x4 :: x5 :: x6 :: x7 :: x8 :: x9 :: l) 9 = some x9 := by
  unfold atI ixN
  rw [if_pos (by decide), if_pos (by simp only [List.length_cons]; omega)]
  rfl
theorem sc_lst {xs : List PV} {lo hi : Option Int} : slc3 (.lst xs) lo hi = some (.own (cutP xs lo hi)) := rfl
theorem sc_tup {xs : List PV} {lo hi : Option Int} : slc3 (.tup xs) lo hi = some (.sh (.tup (cutP xs lo hi))) := rfl
theorem sc_strR {s : Str} {lo hi : Option Int} : slc3 (.str s) lo hi = if s.length ≤ 16777216 then some (.sh (.str (cutS s lo hi))) else none := rfl
theorem sc_str {s : Str} {lo hi : Option Int} : slc3 (.str s) lo hi = gu (s.length ≤ 16777216) (some (.sh (.str (cutS s lo hi)))) := by
  refine Eq.trans (sc_strR) ?_
  (try simp only [bif_c])
  (try simp only [gu_if])
  (try rfl)
theorem u_len_lst {xs : List PV} : blt2 "len" [.lst xs] = some (.sh (.int xs.length)) := rfl
theorem u_len_tup {xs : List PV} : blt2 "len" [.tup xs] = some (.sh (.int xs.length)) := rfl
theorem u_abs {i : Int} : blt2 "abs" [.int i] = some (.sh (.int (if i < 0 then -i else i))) := rfl
theorem u_max {i j : Int} : blt2 "max" [.int i, .int j] = some (.sh (.int (if i < j then j else i))) := rfl
theorem u_min {i j : Int} : blt2 "min" [.int i, .int j] = some (.sh (.int (if j < i then j else i))) := rfl
theorem u_int_int {i : Int} : blt2 "int" [.int i] = some (.sh (.int i)) := rfl
theorem u_int_blR {i : Bool} : blt2 "int" [.bl i] = some (.sh (.int (if i = true then 1 else 0))) := rfl
theorem u_int_bl {i : Bool} : blt2 "int" [.bl i] = some (.sh (.int (cond (i) (1) (0)))) := by
  refine Eq.trans (u_int_blR) ?_
  (try simp only [bif_c])
  (try simp only [gu_if])
  (try rfl)
theorem u_list_lst {xs : List PV} : blt2 "list" [.lst xs] = some (.own xs) := rfl
theorem u_list_tup {xs : List PV} : blt2 "list" [.tup xs] = some (.own xs) := rfl
theorem u_tuple_lst {xs : List PV} : blt2 "tuple" [.lst xs] = some (.sh (.tup xs)) := rfl
theorem u_tuple_tup {xs : List PV} : blt2 "tuple" [.tup xs] = some (.sh (.tup xs)) := rfl
theorem u_len_strR {s : Str} : blt2 "len" [.str s] = if s.length ≤ 16777216 then some (.sh (.int s.length)) else none := rfl
theorem u_len_str {s : Str} : blt2 "len" [.str s] = gu (s.length ≤ 16777216) (some (.sh (.int s.length))) := by
  refine Eq.trans (u_len_strR) ?_
  (try simp only [bif_c])
  (try simp only [gu_if])
  (try rfl)
theorem u_int_strR {s : Str} : blt2 "int" [.str s] = if s.length ≤ 640 then bd0 (PySem.intText? s) fun n => some (.sh (.int n)) else none := by
  show (if s.length ≤ 640 then (PySem.intText? s).map _ else none) = _
  split
  · cases PySem.intText? s <;> rfl
  · rfl
theorem u_int_str {s : Str} : blt2 "int" [.str s] = gu (s.length ≤ 640) (bd (PySem.intText? s) (fun n => some (.sh (.int n))) wt) := by
  refine Eq.trans (u_int_strR) ?_
  (try simp only [bif_c])
  (try simp only [gu_if])
  (try rfl)
theorem u_str_intR {i : Int} : blt2 "str" [.int i] = if i.natAbs.log2 < 1920 then some (.sh (.str (toString i))) else none := rfl
theorem u_str_int {i : Int} : blt2 "str" [.int i] = gu (i.natAbs.log2 < 1920) (some (.sh (.str (toString i)))) := by
  refine Eq.trans (u_str_intR) ?_
  (try simp only [bif_c])
  (try simp only [gu_if])
  (try rfl)
theorem u_sorted {xs : List PV} : blt2 "sorted" [.lst xs] = sortB xs := rfl
theorem u_sumR {xs : List PV} : blt2 "sum" [.lst xs] = bd0 (asInts xs) fun ns => some (.sh (.int ns.sum)) := by
  show (asInts xs).map _ = _
  cases asInts xs <;> rfl
theorem u_sum {xs : List PV} : blt2 "sum" [.lst xs] = bd (asInts xs) (fun ns => some (.sh (.int ns.sum))) wt := by
  refine Eq.trans (u_sumR) ?_
  (try simp only [bif_c])
  (try simp only [gu_if])
  (try rfl)
theorem u_allR {xs : List PV} : blt2 "all" [.lst xs] = bd0 (asBls xs) fun ns => some (.sh (.bl (ns.all id))) := by
  show (asBls xs).map _ = _
  cases asBls xs <;> rfl
theorem u_all {xs : List PV} : blt2 "all" [.lst xs] = bd (asBls xs) (fun ns => some (.sh (.bl (ns.all id)))) wt := by
  refine Eq.trans (u_allR) ?_
  (try simp only [bif_c])
  (try simp only [gu_if])
  (try rfl)
theorem u_anyR {xs : List PV} : blt2 "any" [.lst xs] = bd0 (asBls xs) fun ns => some (.sh (.bl (ns.any id))) := by
  show (asBls xs).map _ = _
  cases asBls xs <;> rfl
theorem u_any {xs : List PV} : blt2 "any" [.lst xs] = bd (asBls xs) (fun ns => some (.sh (.bl (ns.any id)))) wt := by
  refine Eq.trans (u_anyR) ?_
  (try simp only [bif_c])
  (try simp only [gu_if])
  (try rfl)
theorem u_maxLR {xs : List PV} : blt2 "max" [.lst xs] = bd0 (maxL xs) fun m => some (.sh (.int m)) := by
  show (maxL xs).map _ = _
  cases maxL xs <;> rfl
theorem u_maxL {xs : List PV} : blt2 "max" [.lst xs] = bd (maxL xs) (fun m => some (.sh (.int m))) wt := by
  refine Eq.trans (u_maxLR) ?_
  (try simp only [bif_c])
  (try simp only [gu_if])
  (try rfl)
theorem u_minLR {xs : List PV} : blt2 "min" [.lst xs] = bd0 (minL xs) fun m => some (.sh (.int m)) := by
  show (minL xs).map _ = _
  cases minL xs <;> rfl
theorem u_minL {xs : List PV} : blt2 "min" [.lst xs] = bd (minL xs) (fun m => some (.sh (.int m))) wt := by
  refine Eq.trans (u_minLR) ?_
  (try simp only [bif_c])
  (try simp only [gu_if])
  (try rfl)
theorem u_len_dct {kvs : List (PV × PV)} : blt2 "len" [.dct 0 kvs] = some (.sh (.int kvs.length)) := rfl
theorem u_len_dct1 {kvs : List (PV × PV)} : blt2 "len" [.dct 1 kvs] = some (.sh (.int kvs.length)) := rfl
theorem asi_nil : asInts [] = some [] := rfl
theorem asi_consR {x : Int} {xs : List PV} : asInts (.int x :: xs) = bd0 (asInts xs) fun r => some (x :: r) := by
  show (asInts xs).map _ = _
  cases asInts xs <;> rfl
theorem asi_cons {x : Int} {xs : List PV} : asInts (.int x :: xs) = bd (asInts xs) (fun r => some (x :: r)) wt := by
  refine Eq.trans (asi_consR) ?_
  (try simp only [bif_c])
  (try simp only [gu_if])
  (try rfl)
theorem asi_app' (xs ys : List PV) : asInts (xs ++ ys) = bd0 (asInts xs) fun r => bd0 (asInts ys) fun t => some (r ++ t) := by
  induction xs with
  | nil => show asInts ys = bd0 (asInts ys) fun t => some ([] ++ t); cases asInts ys <;> rfl
  | cons x xs ih => cases x <;> first | rfl | (rename_i v; show (asInts (xs ++ ys)).map (v :: ·) = bd0 ((asInts xs).map (v :: ·)) _; rw [ih]; cases asInts xs <;> first | rfl | (cases asInts ys <;> rfl))
theorem asi_appR {xs ys : List PV} : asInts (xs ++ ys) = bd0 (asInts xs) fun r => bd0 (asInts ys) fun t => some (r ++ t) := asi_app' xs ys
theorem asi_app {xs ys : List PV} : asInts (xs ++ ys) = bd (asInts xs) (fun r => bd (asInts ys) (fun t => some (r ++ t)) wt) wt := by
  refine Eq.trans (asi_appR) ?_
  (try simp only [bif_c])
  (try simp only [gu_if])
  (try rfl)
theorem asb_nil : asBls [] = some [] := rfl
theorem asb_consR {x : Bool} {xs : List PV} : asBls (.bl x :: xs) = bd0 (asBls xs) fun r => some (x :: r) := by
  show (asBls xs).map _ = _
  cases asBls xs <;> rfl
theorem asb_cons {x : Bool} {xs : List PV} : asBls (.bl x :: xs) = bd (asBls xs) (fun r => some (x :: r)) wt := by
  refine Eq.trans (asb_consR) ?_
  (try simp only [bif_c])
  (try simp only [gu_if])
  (try rfl)
theorem asb_app' (xs ys : List PV) : asBls (xs ++ ys) = bd0 (asBls xs) fun r => bd0 (asBls ys) fun t => some (r ++ t) := by
  induction xs with
  | nil => show asBls ys = bd0 (asBls ys) fun t => some ([] ++ t); cases asBls ys <;> rfl
  | cons x xs ih => cases x <;> first | rfl | (rename_i v; show (asBls (xs ++ ys)).map (v :: ·) = bd0 ((asBls xs).map (v :: ·)) _; rw [ih]; cases asBls xs <;> first | rfl | (cases asBls ys <;> rfl))
theorem asb_appR {xs ys : List PV} : asBls (xs ++ ys) = bd0 (asBls xs) fun r => bd0 (asBls ys) fun t => some (r ++ t) := asb_app' xs ys
theorem asb_app {xs ys : List PV} : asBls (xs ++ ys) = bd (asBls xs) (fun r => bd (asBls ys) (fun t => some (r ++ t)) wt) wt := by
  refine Eq.trans (asb_appR) ?_
  (try simp only [bif_c])
  (try simp only [gu_if])
  (try rfl)
theorem ass_nil : asStrs [] = some [] := rfl
theorem ass_consR {x : Str} {xs : List PV} : asStrs (.str x :: xs) = bd0 (asStrs xs) fun r => some (x :: r) := by
  show (asStrs xs).map _ = _
  cases asStrs xs <;> rfl
theorem ass_cons {x : Str} {xs : List PV} : asStrs (.str x :: xs) = bd (asStrs xs) (fun r => some (x :: r)) wt := by
  refine Eq.trans (ass_consR) ?_
  (try simp only [bif_c])
  (try simp only [gu_if])
  (try rfl)
theorem ass_app' (xs ys : List PV) : asStrs (xs ++ ys) = bd0 (asStrs xs) fun r => bd0 (asStrs ys) fun t => some (r ++ t) := by
  induction xs with
  | nil => show asStrs ys = bd0 (asStrs ys) fun t => some ([] ++ t); cases asStrs ys <;> rfl
  | cons x xs ih => cases x <;> first | rfl | (rename_i v; show (asStrs (xs ++ ys)).map (v :: ·) = bd0 ((asStrs xs).map (v :: ·)) _; rw [ih]; cases asStrs xs <;> first | rfl | (cases asStrs ys <;> rfl))
theorem ass_appR {xs ys : List PV} : asStrs (xs ++ ys) = bd0 (asStrs xs) fun r => bd0 (asStrs ys) fun t => some (r ++ t) := ass_app' xs ys
theorem ass_app {xs ys : List PV} : asStrs (xs ++ ys) = bd (asStrs xs) (fun r => bd (asStrs ys) (fun t => some (r ++ t)) wt) wt := by
  refine Eq.trans (ass_appR) ?_
  (try simp only [bif_c])
  (try simp only [gu_if])
  (try rfl)
theorem is_non_tuple' : isi2 (.non) "tuple" = some false := by
  show kitB "NoneType" "tuple" = _
  rw [kit_non_tuple]
theorem is_non_list' : isi2 (.non) "list" = some false := by
  show kitB "NoneType" "list" = _
  rw [kit_non_list]
theorem is_non_bool' : isi2 (.non) "bool" = some false := by
  show kitB "NoneType" "bool" = _
  rw [kit_non_bool]
theorem is_non_int' : isi2 (.non) "int" = some false := by
  show kitB "NoneType" "int" = _
  rw [kit_non_int]
theorem is_non_str' : isi2 (.non) "str" = some false := by
  show kitB "NoneType" "str" = _
  rw [kit_non_str]
theorem is_bl_tuple' {i : Bool} : isi2 (.bl i) "tuple" = some false := by
  show kitB "bool" "tuple" = _
  rw [kit_bl_tuple]
theorem is_bl_list' {i : Bool} : isi2 (.bl i) "list" = some false := by
  show kitB "bool" "list" = _
  rw [kit_bl_list]
theorem is_bl_bool' {i : Bool} : isi2 (.bl i) "bool" = some true := by
  show kitB "bool" "bool" = _
  rw [kit_bl_bool]
theorem is_bl_int' {i : Bool} : isi2 (.bl i) "int" = some true := by
  show kitB "bool" "int" = _
  rw [kit_bl_int]
theorem is_bl_str' {i : Bool} : isi2 (.bl i) "str" = some false := by
  show kitB "bool" "str" = _
  rw [kit_bl_str]
theorem is_int_tuple' {i : Int} : isi2 (.int i) "tuple" = some false := by
  show kitB "int" "tuple" = _
  rw [kit_int_tuple]
theorem is_int_list' {i : Int} : isi2 (.int i) "list" = some false := by
  show kitB "int" "list" = _
  rw [kit_int_list]
theorem is_int_bool' {i : Int} : isi2 (.int i) "bool" = some false := by
  show kitB "int" "bool" = _
  rw [kit_int_bool]
theorem is_int_int' {i : Int} : isi2 (.int i) "int" = some true := by
  show kitB "int" "int" = _
  rw [kit_int_int]
theorem is_int_str' {i : Int} : isi2 (.int i) "str" = some false := by
  show kitB "int" "str" = _
  rw [kit_int_str]
theorem is_str_tuple' {i : Str} : isi2 (.str i) "tuple" = some false := by
  show kitB "str" "tuple" = _
  rw [kit_str_tuple]
theorem is_str_list' {i : Str} : isi2 (.str i) "list" = some false := by
  show kitB "str" "list" = _
  rw [kit_str_list]
theorem is_str_bool' {i : Str} : isi2 (.str i) "bool" = some false := by
  show kitB "str" "bool" = _
  rw [kit_str_bool]
theorem is_str_int' {i : Str} : isi2 (.str i) "int" = some false := by
  show kitB "str" "int" = _
  rw [kit_str_int]
theorem is_str_str' {i : Str} : isi2 (.str i) "str" = some true := by
  show kitB "str" "str" = _
  rw [kit_str_str]
theorem is_lst_tuple' {i : List PV} : isi2 (.lst i) "tuple" = some false := by
  show kitB "list" "tuple" = _
  rw [kit_lst_tuple]
theorem is_lst_list' {i : List PV} : isi2 (.lst i) "list" = some true := by
  show kitB "list" "list" = _
  rw [kit_lst_list]
theorem is_lst_bool' {i : List PV} : isi2 (.lst i) "bool" = some false := by
  show kitB "list" "bool" = _
  rw [kit_lst_bool]
theorem is_lst_int' {i : List PV} : isi2 (.lst i) "int" = some false := by
  show kitB "list" "int" = _
  rw [kit_lst_int]
theorem is_lst_str' {i : List PV} : isi2 (.lst i) "str" = some false := by
  show kitB "list" "str" = _
  rw [kit_lst_str]
theorem is_tup_tuple' {i : List PV} : isi2 (.tup i) "tuple" = some true := by
  show kitB "tuple" "tuple" = _
  rw [kit_tup_tuple]
theorem is_tup_list' {i : List PV} : isi2 (.tup i) "list" = some false := by
  show kitB "tuple" "list" = _
  rw [kit_tup_list]
theorem is_tup_bool' {i : List PV} : isi2 (.tup i) "bool" = some false := by
  show kitB "tuple" "bool" = _
  rw [kit_tup_bool]
theorem is_tup_int' {i : List PV} : isi2 (.tup i) "int" = some false := by
  show kitB "tuple" "int" = _
  rw [kit_tup_int]
theorem is_tup_str' {i : List PV} : isi2 (.tup i) "str" = some false := by
  show kitB "tuple" "str" = _
  rw [kit_tup_str]
theorem is_dct_dict {t : Nat} {kvs : List (PV × PV)} : isi2 (.dct t kvs) "dict" = some true := by
  show kitB "dict" "dict" = _
  rw [kit_dct_dict]
theorem it_lst' {xs : List PV} : items1 (.lst xs) = some xs := rfl
theorem it_tup' {xs : List PV} : items1 (.tup xs) = some xs := rfl
theorem it_str' {s : Str} : items1 (.str s) = some (s.cps.toList.map fun c => .str ⟨#[c]⟩) := rfl
theorem z_lst' {xs ys : List PV} : zipL (.lst xs) (.lst ys) = some (xs.zipWith (fun x y => PV.tup [x, y]) ys) := rfl
theorem z_tup' {xs ys : List PV} : zipL (.tup xs) (.tup ys) = some (xs.zipWith (fun x y => PV.tup [x, y]) ys) := rfl
theorem m_joinR {s : Str} {xs : List PV} : meth2 "join" (.str s) (.lst xs) = bd0 (asStrs xs) fun ys => if (ys.map (·.length)).sum + ys.length * s.length ≤ 16777216 then some (.sh (.str (Txt.join s ys))) else none := by
  show (asStrs xs).bind _ = _
  cases asStrs xs <;> rfl
theorem m_join {s : Str} {xs : List PV} : meth2 "join" (.str s) (.lst xs) = bd (asStrs xs) (fun ys => gu ((ys.map (·.length)).sum + ys.length * s.length ≤ 16777216) (some (.sh (.str (Txt.join s ys))))) wt := by
  refine Eq.trans (m_joinR) ?_
  (try simp only [bif_c])
  (try simp only [gu_if])
  (try rfl)
theorem m_find {s t : Str} : meth2 "find" (.str s) (.str t) = some (.sh (.int (Txt.find s t))) := rfl
theorem m_splitR {s t : Str} : meth2 "split" (.str s) (.str t) = if t.length ≠ 0 ∧ s.length + 2 ≤ 16777216 then some (.own ((Txt.split s t).map PV.str)) else none := rfl
theorem m_split {s t : Str} : meth2 "split" (.str s) (.str t) = gu (t.length ≠ 0 ∧ s.length + 2 ≤ 16777216) (some (.own ((Txt.split s t).map PV.str))) := by
  refine Eq.trans (m_splitR) ?_
  (try simp only [bif_c])
  (try simp only [gu_if])
  (try rfl)
end
theorem ofS_inj {s t : String} : (Str.ofString s = Str.ofString t) = (s = t) := by
  apply propext
  constructor
  · intro h
    rw [Str.ofString_eq_toList, Str.ofString_eq_toList] at h
    injection h with h
    have h2 : s.toList.map Char.toNat = t.toList.map Char.toNat := by simpa using h
    have inj : ∀ x y : Char, Char.toNat x = Char.toNat y → x = y := fun a b e => Char.ext (UInt32.toNat.inj e)
    have h3 : s.toList = t.toList := (List.map_inj_right inj).mp h2
    exact String.toList_inj.mp h3
  · rintro rfl; rfl
section
variable {α : Type}
theorem de_t {p : Prop} [Decidable p] : (decide p = true) = p := by simp
theorem de_f {p : Prop} [Decidable p] : (decide p = false) = ¬ p := by simp
theorem nb_t {b : Bool} : ((!b) = true) = (b = false) := by simp
theorem nb_f {b : Bool} : ((!b) = false) = (b = true) := by simp
theorem an_t {a b : Bool} : ((a && b) = true) = (a = true ∧ b = true) := by simp
theorem or_t {a b : Bool} : ((a || b) = true) = (a = true ∨ b = true) := by simp
theorem tt_t : (true = true) = True := by simp
theorem ff_f : (false = false) = True := by simp
theorem tt_f : (true = false) = False := by simp
theorem ff_t : (false = true) = False := by simp
theorem bn_t : (!true) = false := rfl
theorem bn_f : (!false) = true := rfl
theorem ba_tt {b : Bool} : (true && b) = b := by cases b <;> rfl
theorem ba_ff {b : Bool} : (false && b) = false := rfl
theorem bo_tr {b : Bool} : (b || true) = true := by cases b <;> rfl
theorem ba_tr {b : Bool} : (b && true) = b := by cases b <;> rfl
theorem bo_fr {b : Bool} : (b || false) = b := by cases b <;> rfl
theorem bo_tt {b : Bool} : (true || b) = true := rfl
theorem bo_ff {b : Bool} : (false || b) = b := by cases b <;> rfl
theorem dT {i : Decidable True} : @decide True i = true := by simp
theorem ne_d {a b : Int} : (a ≠ b) = ¬ (a = b) := rfl
theorem dF {i : Decidable False} : @decide False i = false := by simp
theorem eqself {a : α} : (a = a) = True := by simp
theorem nc0 : ((0 : Nat) : Int) = 0 := rfl
theorem nc1 : ((1 : Nat) : Int) = 1 := rfl
theorem nc2 : ((2 : Nat) : Int) = 2 := rfl
theorem nc3 : ((3 : Nat) : Int) = 3 := rfl
theorem nc4 : ((4 : Nat) : Int) = 4 := rfl
theorem nc5 : ((5 : Nat) : Int) = 5 := rfl
theorem nc6 : ((6 : Nat) : Int) = 6 := rfl
theorem nc7 : ((7 : Nat) : Int) = 7 := rfl
theorem nc8 : ((8 : Nat) : Int) = 8 := rfl
theorem nc9 : ((9 : Nat) : Int) = 9 := rfl
theorem nc10 : ((10 : Nat) : Int) = 10 := rfl
theorem nc11 : ((11 : Nat) : Int) = 11 := rfl
theorem nc12 : ((12 : Nat) : Int) = 12 := rfl
theorem nc13 : ((13 : Nat) : Int) = 13 := rfl
theorem nc14 : ((14 : Nat) : Int) = 14 := rfl
theorem nc15 : ((15 : Nat) : Int) = 15 := rfl
theorem nc16 : ((16 : Nat) : Int) = 16 := rfl
end
section
variable {α β γ δ : Type}
theorem comp_eq {step : PV → PEnv → Option (Option PV × PEnv)} {E : PEnv} {xs : List PV} (zs : List α) (g : α → PV) (f : α → PV)
    (hx : xs = zs.map g) (h : ∀ z ∈ zs, step (g z) E = some (some (f z), E)) (hl : zs.length ≤ 16777216) : compL step xs E [] = some (zs.map f, E) := bind_id (comp_map (k := fun q => some q) zs g f hx h hl)
/-- a for loop, told by the walked number -/
theorem forR_eq {body : PV → PEnv → Option Fl} {xs : List PV} {e : PEnv} (n : Nat) (g : Nat → PV) (I : Nat → PEnv → Prop)
    (hx : xs = (List.range n).map g) (h0 : I 0 e) (h : ∀ i e, i < n → I i e → ∃ e', body (g i) e = some (.next e') ∧ I (i + 1) e') : ∃ e', forL body xs e = some (.next e') ∧ I n e' := by
  subst hx
  obtain ⟨e', h1, h2⟩ := for_inv (g := g) (fun pre e => I pre.length e) (List.range n) [] e (fun p z q e hL hI => by
    obtain ⟨rfl, hz⟩ := range_split hL
    rw [List.length_range] at hI
    rw [List.length_append, List.length_range]
    exact h z e hz hI) h0
  refine ⟨e', h1, ?_⟩
  rw [List.nil_append, List.length_range] at h2
  exact h2
theorem forL_eq {body : PV → PEnv → Option Fl} {xs : List PV} {e : PEnv} (zs : List γ) (d : γ) (g : γ → PV) (I : Nat → PEnv → Prop)
    (hx : xs = zs.map g) (h0 : I 0 e) (h : ∀ i e, i < zs.length → I i e → ∃ e', body (g (zs.getD i d)) e = some (.next e') ∧ I (i + 1) e') : ∃ e', forL body xs e = some (.next e') ∧ I zs.length e' := by
  subst hx
  obtain ⟨e', h1, h2⟩ := for_inv (g := g) (fun pre e => I pre.length e) zs [] e (fun p z q e hL hI => by
    have hz : zs.getD p.length d = z := by rw [show zs = p ++ z :: q from hL, List.getD_eq_getElem?_getD, List.getElem?_append_right (Nat.le_refl _), Nat.sub_self]; rfl
    have hl : p.length < zs.length := by rw [show zs = p ++ z :: q from hL, List.length_append, List.length_cons]; omega
    have := h p.length e hl hI
    rw [hz] at this
    rw [List.length_append]
    exact this) h0
  exact ⟨e', h1, h2⟩
end
/-- a cast, as omega reads it -/
noncomputable def toI (x : Nat) : Int := (x : Int)
theorem cI1 {x : Nat} : @NatCast.natCast Int instNatCastInt x = toI x := rfl
theorem cI2 {x : Nat} : toI x = (x : Int) := rfl
end Me
/-! Me19: a goal about what is walked: At Q wt X. -/
namespace Me
open PySem PySem.Spec PyProof.Rows L2
section
variable {α β γ : Type}
noncomputable def At (Q : α → Prop) (_ : Wit Q) (X : α) : Prop := Q X
theorem at_start {Q : α → Prop} {X : α} (h : At Q wt X) : Q X := h
theorem at_end {Q : α → Prop} {X : α} (h : Q X) : At Q wt X := h
theorem at_eq {X R : α} (h : At (fun x => x = R) wt X) : X = R := h
theorem at_rfl {X R : α} (h : X = R) : At (fun x => x = R) wt X := h
theorem at_gx {Q : Option α → Prop} {c : Prop} {x : Unit → Option α} {a : Option α} (hc : c) (g : At Q wt a) : At Q wt (gx c x wt a) := by rw [gx_ok hc]; exact g
theorem at_gu {Q : Option α → Prop} {c : Prop} {a : Option α} (hc : c) (g : At Q wt a) : At Q wt (gu c a) := by rw [gu_ok hc]; exact g
theorem at_gf {Q : Option α → Prop} {c : Prop} {h : c} {a : Option α} (g : c → At Q wt a) : At Q wt (gf c h a) := by rw [gf_ok]; exact g h
theorem at_cond {Q : Option α → Prop} {p : Prop} [Decidable p] {a b : Option α} (h1 : p → At Q wt a) (h2 : ¬ p → At Q wt b) : At Q wt (cond (decide p) a b) := by
  by_cases h : p
  · rw [cond_pos h]; exact h1 h
  · rw [cond_neg h]; exact h2 h
theorem at_condN {Q : Option α → Prop} {p : Prop} [Decidable p] {a b : Option α} (h1 : p → At Q wt b) (h2 : ¬ p → At Q wt a) : At Q wt (cond (!decide p) a b) := by
  by_cases h : p
  · rw [decide_eq_true h]; exact h1 h
  · rw [decide_eq_false h]; exact h2 h
theorem at_if {Q : Option α → Prop} {p : Prop} [Decidable p] {a b : Option α} (h1 : p → At Q wt a) (h2 : ¬ p → At Q wt b) : At Q wt (if p then a else b) := by
  by_cases h : p
  · rw [if_pos h]; exact h1 h
  · rw [if_neg h]; exact h2 h
/-- a comprehension -/
theorem at_comp {Q : Option β → Prop} {step : PV → PEnv → Option (Option PV × PEnv)} {E : PEnv} {xs : List PV} {k : List PV → PEnv → Option β} (zs : List α) (g : α → PV) (f : α → PV)
    (hx : xs = zs.map g) (h : ∀ z ∈ zs, At (fun r => r = some (some (f z), E)) wt (step (g z) E)) (hl : zs.length ≤ 16777216) (hk : At Q wt (k (zs.map f) E)) : At Q wt (bd2 (compL step xs E []) k wt) := by
  rw [comp_eq zs g f hx h hl]; exact hk
/-- loops: what a turn gives -/
noncomputable def Nx (I : PEnv → Prop) (r : Option Fl) : Prop := ∃ e', r = some (.next e') ∧ I e'
theorem at_nx {I : PEnv → Prop} {e : PEnv} (h : I e) : At (Nx I) wt (some (.next e)) := ⟨e, rfl, h⟩
theorem at_forRf {Q : Option Sl → Prop} {body : PV → PEnv → Option Fl} {xs : List PV} {e : PEnv} {k : PEnv → Option Sl} (n : Nat) (g : Nat → PV) (I : Nat → PEnv → Prop)
    (hx : xs = (List.range n).map g) (h0 : I 0 e) (h : ∀ i e, i < n → I i e → At (Nx (I (i + 1))) wt (body (g i) e)) (hk : ∀ e', I n e' → At Q wt (k e')) : At Q wt (fq (forL body xs e) k wt) := by
  obtain ⟨e', h1, h2⟩ := forR_eq n g I hx h0 h
  rw [h1]; exact hk e' h2
theorem at_forL {Q : Option Fl → Prop} {body : PV → PEnv → Option Fl} {xs : List PV} {e : PEnv} {k : PEnv → Option Fl} (zs : List γ) (d : γ) (g : γ → PV) (I : Nat → PEnv → Prop)
    (hx : xs = zs.map g) (h0 : I 0 e) (h : ∀ i e, i < zs.length → I i e → At (Nx (I (i + 1))) wt (body (g (zs.getD i d)) e)) (hk : ∀ e', I zs.length e' → At Q wt (k e')) : At Q wt (sq (forL body xs e) k wt) := by
  obtain ⟨e', h1, h2⟩ := forL_eq zs d g I hx h0 h
  rw [h1]; exact hk e' h2
theorem at_forLf {Q : Option Sl → Prop} {body : PV → PEnv → Option Fl} {xs : List PV} {e : PEnv} {k : PEnv → Option Sl} (zs : List γ) (d : γ) (g : γ → PV) (I : Nat → PEnv → Prop)
    (hx : xs = zs.map g) (h0 : I 0 e) (h : ∀ i e, i < zs.length → I i e → At (Nx (I (i + 1))) wt (body (g (zs.getD i d)) e)) (hk : ∀ e', I zs.length e' → At Q wt (k e')) : At Q wt (fq (forL body xs e) k wt) := by
  obtain ⟨e', h1, h2⟩ := forL_eq zs d g I hx h0 h
  rw [h1]; exact hk e' h2
/-- loops that may end early: what a turn gives (J: what a return gives, K: what holds at a break) -/
noncomputable def Nr (I : PEnv → Prop) (J : Sl → PEnv → Prop) (K : PEnv → Prop) (r : Option Fl) : Prop := (∃ e', r = some (.next e') ∧ I e') ∨ (∃ v e', r = some (.ret v e') ∧ J v e') ∨ (∃ e', r = some (.brk e') ∧ K e')
theorem nr_nx {I : PEnv → Prop} {J : Sl → PEnv → Prop} {K : PEnv → Prop} {e : PEnv} (h : I e) : At (Nr I J K) wt (some (.next e)) := .inl ⟨e, rfl, h⟩
theorem nr_ret {I : PEnv → Prop} {J : Sl → PEnv → Prop} {K : PEnv → Prop} {v : Sl} {e : PEnv} (h : J v e) : At (Nr I J K) wt (some (.ret v e)) := .inr (.inl ⟨v, e, rfl, h⟩)
theorem forS_eq {body : PV → PEnv → Option Fl} (g : γ → PV) (d : γ) (I : Nat → PEnv → Prop) (J : Sl → PEnv → Prop) (K : PEnv → Prop) : ∀ (m : Nat) (zs : List γ) (i : Nat) (e : PEnv), zs.length = i + m → I i e →
    (∀ i e, i < zs.length → I i e → At (Nr (I (i + 1)) J K) wt (body (g (zs.getD i d)) e)) →
    (∃ e', forL body ((zs.drop i).map g) e = some (.next e') ∧ (I zs.length e' ∨ K e')) ∨ (∃ v e', forL body ((zs.drop i).map g) e = some (.ret v e') ∧ J v e')
  | 0, zs, i, e, hl, h0, h => by
    have : zs.drop i = [] := List.drop_of_length_le (by omega)
    rw [this]
    exact .inl ⟨e, rfl, .inl (by rw [hl, Nat.add_zero]; exact h0)⟩
  | m + 1, zs, i, e, hl, h0, h => by
    have hi : i < zs.length := by omega
    have e1 : zs.drop i = zs.getD i d :: zs.drop (i + 1) := by rw [List.getD_eq_getElem?_getD, List.getElem?_eq_getElem hi]; exact List.drop_eq_getElem_cons hi
    have u : forL body ((zs.drop i).map g) e = (body (g (zs.getD i d)) e).bind fun r => match r with
      | .next e => forL body ((zs.drop (i + 1)).map g) e
      | .ret s e => some (.ret s e)
      | .brk e => some (.next e) := by rw [e1]; rfl
    rcases h i e hi h0 with ⟨e', h1, h2⟩ | ⟨v, e', h1, h2⟩ | ⟨e', h1, h2⟩
    · rcases forS_eq g d I J K m zs (i + 1) e' (by omega) h2 h with ⟨e2, h3, h4⟩ | ⟨v, e2, h3, h4⟩
      · exact .inl ⟨e2, by rw [u, h1]; exact h3, h4⟩
      · exact .inr ⟨v, e2, by rw [u, h1]; exact h3, h4⟩
    · exact .inr ⟨v, e', by rw [u, h1]; rfl, h2⟩
    · exact .inl ⟨e', by rw [u, h1]; rfl, .inr h2⟩
theorem at_forSf {Q : Option Sl → Prop} {body : PV → PEnv → Option Fl} {xs : List PV} {e : PEnv} {k : PEnv → Option Sl} (zs : List γ) (d : γ) (g : γ → PV) (I : Nat → PEnv → Prop) (K : PEnv → Prop)
    (hx : xs = zs.map g) (h0 : I 0 e) (h : ∀ i e, i < zs.length → I i e → At (Nr (I (i + 1)) (fun v e => Q (some v)) K) wt (body (g (zs.getD i d)) e)) (hk : ∀ e', I zs.length e' ∨ K e' → At Q wt (k e')) : At Q wt (fq (forL body xs e) k wt) := by
  subst hx
  have := forS_eq g d I (fun v e => Q (some v)) K zs.length zs 0 e (by omega) h0 h
  rw [List.drop_zero] at this
  rcases this with ⟨e', h1, h2⟩ | ⟨v, e', h1, h2⟩
  · rw [h1]; exact hk e' h2
  · rw [h1]; exact h2
end
theorem at_int' {M : List Int} {i : Int} : atI (M.map PV.int) i = gx (0 ≤ i ∧ i < (M.length : Int)) (fun _ => atI (M.map PV.int) i) wt (some (.int (M.getD i.toNat 0))) :=
  gx_of fun h => by rw [atI_map PV.int M 0 i h.1 h.2]
end Me
/-! Me20: values as data: ==, in, sorted of lists of tuples. -/
namespace Me
open PySem PySem.Spec PyProof.Rows L2
section
variable {α : Type} {g : α → PV} {gd : α → PyData} {L : List α}
end
end Me
/-! Me21: while loops in a walk; membership of numbers. -/
namespace Me
open PySem PySem.Spec PyProof.Rows L2
section
end
/-! a for in whose turn k a text raises -/
/-! is one of these in a list of ints? -/
end Me
namespace Pr
open PySem PySem.Spec PyProof.Rows L2 Me
noncomputable def topS (i : Nat) : Stmt := PySem.Challenge.pw_bellnest_k08_stretches.main.body.getD i (.Pass ⟨0, 0, 0, 0⟩)
noncomputable def Cs : List Str := ["Reader"]
noncomputable def Fl : List Str := ["at", "bells", "boxes", "places", "rows", "stretches"]
noncomputable def T_made : List (Str × Nat) := [("Reader", 18)]
noncomputable def T_ended : List (Str × Nat) := [("Reader", 17)]
noncomputable def T_take : List (Str × Nat) := [("Reader", 12)]
noncomputable def T_take_box : List (Str × Nat) := [("Reader", 13)]
noncomputable def T_take_bell : List (Str × Nat) := [("Reader", 14)]
noncomputable def T_take_row : List (Str × Nat) := [("Reader", 15)]
noncomputable def T_take_shut : List (Str × Nat) := [("Reader", 16)]
noncomputable def Mt : List ((Str × Str) × Nat) := (("Reader", "made"), 18) :: (("Reader", "ended"), 17) :: (("Reader", "take"), 12) :: (("Reader", "take_box"), 13) :: (("Reader", "take_bell"), 14) :: (("Reader", "take_row"), 15) :: (("Reader", "take_shut"), 16) :: []
noncomputable def Nw : List (Str × Nat) := [("Reader", 11)]
noncomputable def Isa : List ((Str × Str) × Bool) := []
noncomputable def Mx : List ((Str × Str) × Nat) := []
noncomputable def Df : List (Nat × Int) := []
noncomputable def Dc : List Str := ["Reader"]
noncomputable def Db : Tb := ⟨Dc, Fl, Mt, Nw, Isa, none, [], [], Mx, Df⟩
/-- size_of -/
noncomputable def b0 : Ss := (.cons (.ret [] (.blt "len" (.cons (.ix (.ix (.var 0) (.var 1)) (.int 1)) .nil))) .nil)
noncomputable def f0 : Fn := ⟨"size_of", "size_of", ["boxes", "x"], ["boxes", "x"], [], true, b0, 0⟩
/-- is_name -/
noncomputable def b1 : Ss := (.cons (.ret [] (.and (.chain .LtE .LtE (.int 1) (.blt "len" (.cons (.var 0) .nil)) (.int 8)) (.blt "all" (.cons (.comp (.cmp .In (.var 1) (.glob "LETTERS" (.str "abcdefghijklmnopqrstuvwxyz"))) (.name 1) [("sign", 1)] (.val (.var 0)) .yes) .nil)))) .nil)
noncomputable def f1 : Fn := ⟨"is_name", "is_name", ["text", "sign"], ["text"], [], true, b1, 0⟩
/-- number_of -/
noncomputable def b2_0 : Ss := (.cons (.ret [] (.neg (.var 2))) .nil)
noncomputable def b2_1 : Ss := (.cons (.ife (.cmp .Eq (.var 1) (.var 0)) (.cons (.ret [] (.var 2)) .nil) .nil) b2_0)
noncomputable def b2_2 : Ss := (.cons (.ife (.cmp .Gt (.var 2) (.glob "BOUND" (.int 1000000000))) (.cons (.ret [] .non) .nil) .nil) b2_1)
noncomputable def b2_3 : Ss := (.cons (.set 2 (.blt "int" (.cons (.var 1) .nil))) b2_2)
noncomputable def b2_4 : Ss := (.cons (.ife (.cmp .Eq (.ix (.var 1) (.int 0)) (.str "0")) (.cons (.ife (.cmp .Eq (.var 0) (.str "0")) (.cons (.ret [] (.int 0)) .nil) .nil) (.cons (.ret [] .non) .nil)) .nil) b2_3)
noncomputable def b2_5 : Ss := (.cons (.ife (.or (.not (.chain .LtE .LtE (.int 1) (.blt "len" (.cons (.var 1) .nil)) (.int 10))) (.not (.val (.blt "all" (.cons (.comp (.cmp .In (.var 3) (.glob "FIGURES" (.str "0123456789"))) (.name 3) [("sign", 3)] (.val (.var 1)) .yes) .nil))))) (.cons (.ret [] .non) .nil) .nil) b2_4)
noncomputable def b2_6 : Ss := (.cons (.ife (.cmp .Eq (.slc (.var 0) .no (.some (.int 1))) (.str "-")) (.cons (.set 1 (.slc (.var 0) (.some (.int 1)) .no)) .nil) .nil) b2_5)
noncomputable def b2 : Ss := (.cons (.set 1 (.var 0)) b2_6)
noncomputable def f2 : Fn := ⟨"number_of", "number_of", ["text", "body", "number", "sign"], ["text"], [], true, b2, 0⟩
/-- named -/
noncomputable def b3_0 : Ss := (.cons (.ret [] .non) .nil)
noncomputable def b3_1 : Ss := (.cons (.ife (.cmp .Eq (.ix (.ix (.var 0) (.var 2)) (.int 0)) (.var 1)) (.cons (.ret [] (.var 2)) .nil) .nil) .nil)
noncomputable def b3 : Ss := (.cons (.for (.name 2) (.range1 (.blt "len" (.cons (.var 0) .nil))) b3_1) b3_0)
noncomputable def f3 : Fn := ⟨"named", "named", ["things", "name", "k"], ["things", "name"], [], true, b3, 0⟩
/-- figure_of -/
noncomputable def b4_0 : Ss := (.cons (.ret [] .non) .nil)
noncomputable def b4 : Ss := (.cons (.ife (.and (.cmp .Eq (.blt "len" (.cons (.var 0) .nil)) (.int 1)) (.cmp .In (.var 0) (.glob "RANKS" (.str "123456789")))) (.cons (.ret [] (.blt "int" (.cons (.var 0) .nil))) .nil) .nil) b4_0)
noncomputable def f4 : Fn := ⟨"figure_of", "figure_of", ["text"], ["text"], [], true, b4, 0⟩
/-- alike -/
noncomputable def b5 : Ss := (.cons (.ret [] (.and (.cmp .IsNot (.var 1) .non) (.and (.cmp .IsNot (.var 2) .non) (.cmp .Eq (.call 0 (.cons (.var 0) (.cons (.var 1) .nil))) (.call 0 (.cons (.var 0) (.cons (.var 2) .nil))))))) .nil)
noncomputable def f5 : Fn := ⟨"alike", "alike", ["boxes", "x", "y"], ["boxes", "x", "y"], [], true, b5, 0⟩
/-- put_by -/
noncomputable def b6_0 : Ss := (.cons (.ret [] (.tup (.cons (.str "put") (.cons (.var 2) (.cons (.blt "tuple" (.cons (.var 3) .nil)) .nil))))) .nil)
noncomputable def b6_1 : Ss := (.cons (.ife (.or (.cmp .Is (.var 2) .non) (.or (.cmp .In .non (.var 3)) (.cmp .NotEq (.blt "len" (.cons (.var 3) .nil)) (.call 0 (.cons (.var 1) (.cons (.var 2) .nil)))))) (.cons (.ret [] .non) .nil) .nil) b6_0)
noncomputable def b6_2 : Ss := (.cons (.set 3 (.comp (.call 2 (.cons (.var 4) .nil)) (.name 4) [("word", 4)] (.val (.slc (.var 0) (.some (.int 2)) .no)) .yes)) b6_1)
noncomputable def b6 : Ss := (.cons (.set 2 (.call 3 (.cons (.var 1) (.cons (.ix (.var 0) (.int 1)) .nil)))) b6_2)
noncomputable def f6 : Fn := ⟨"put_by", "put_by", ["words", "boxes", "x", "numbers", "word"], ["words", "boxes"], [], true, b6, 0⟩
/-- here_by -/
noncomputable def b7_0 : Ss := (.cons (.ret [] (.tup (.cons (.ix (.var 0) (.int 2)) (.cons (.var 2) (.cons (.var 3) (.cons (.var 4) .nil)))))) .nil)
noncomputable def b7_1 : Ss := (.cons (.ife (.or (.not (.val (.call 5 (.cons (.var 1) (.cons (.var 2) (.cons (.var 3) .nil)))))) (.cmp .Is (.var 4) .non)) (.cons (.ret [] .non) .nil) .nil) b7_0)
noncomputable def b7_2 : Ss := (.cons (.ife (.or (.cmp .NotIn (.ix (.var 0) (.int 2)) (.tup (.cons (.str "is") (.cons (.str "most") .nil)))) (.cmp .NotEq (.ix (.var 0) (.int 4)) (.str "plus"))) (.cons (.ret [] .non) .nil) .nil) b7_1)
noncomputable def b7_3 : Ss := (.cons (.set 4 (.call 2 (.cons (.ix (.var 0) (.int 5)) .nil))) b7_2)
noncomputable def b7_4 : Ss := (.cons (.set 3 (.call 3 (.cons (.var 1) (.cons (.ix (.var 0) (.int 3)) .nil)))) b7_3)
noncomputable def b7 : Ss := (.cons (.set 2 (.call 3 (.cons (.var 1) (.cons (.ix (.var 0) (.int 1)) .nil)))) b7_4)
noncomputable def f7 : Fn := ⟨"here_by", "here_by", ["words", "boxes", "x", "y", "number"], ["words", "boxes"], [], true, b7, 0⟩
/-- anew_by -/
noncomputable def b8_0 : Ss := (.cons (.ret [] (.tup (.cons (.str "anew") (.cons (.var 2) (.cons (.var 3) (.cons (.var 4) .nil)))))) .nil)
noncomputable def b8_1 : Ss := (.cons (.ife (.or (.cmp .Eq (.var 2) (.var 3)) (.or (.cmp .Eq (.var 2) (.var 4)) (.cmp .Eq (.var 3) (.var 4)))) (.cons (.ret [] .non) .nil) .nil) b8_0)
noncomputable def b8_2 : Ss := (.cons (.ife (.or (.not (.val (.call 5 (.cons (.var 1) (.cons (.var 2) (.cons (.var 3) .nil)))))) (.cmp .NotEq (.call 0 (.cons (.var 1) (.cons (.var 4) .nil))) (.int 1))) (.cons (.ret [] .non) .nil) .nil) b8_1)
noncomputable def b8_3 : Ss := (.cons (.ife (.or (.cmp .NotEq (.ix (.var 0) (.int 2)) (.str "from")) (.or (.cmp .NotEq (.ix (.var 0) (.int 4)) (.str "by")) (.cmp .Is (.var 4) .non))) (.cons (.ret [] .non) .nil) .nil) b8_2)
noncomputable def b8_4 : Ss := (.cons (.set 4 (.call 3 (.cons (.var 1) (.cons (.ix (.var 0) (.int 5)) .nil)))) b8_3)
noncomputable def b8_5 : Ss := (.cons (.set 3 (.call 3 (.cons (.var 1) (.cons (.ix (.var 0) (.int 3)) .nil)))) b8_4)
noncomputable def b8 : Ss := (.cons (.set 2 (.call 3 (.cons (.var 1) (.cons (.ix (.var 0) (.int 1)) .nil)))) b8_5)
noncomputable def f8 : Fn := ⟨"anew_by", "anew_by", ["words", "boxes", "x", "y", "tally"], ["words", "boxes"], [], true, b8, 0⟩
/-- short_by -/
noncomputable def b9_0 : Ss := (.cons (.ret [] .non) .nil)
noncomputable def b9_1 : Ss := (.cons (.ife (.and (.cmp .Eq (.var 2) (.str "grow")) (.and (.cmp .Eq (.blt "len" (.cons (.var 0) .nil)) (.int 3)) (.cmp .IsNot (.call 2 (.cons (.ix (.var 0) (.int 2)) .nil)) .non))) (.cons (.ret [] (.tup (.cons (.str "grow") (.cons (.var 3) (.cons (.call 2 (.cons (.ix (.var 0) (.int 2)) .nil)) .nil))))) .nil) .nil) b9_0)
noncomputable def b9_2 : Ss := (.cons (.ife (.and (.cmp .Eq (.var 2) (.str "copy")) (.cmp .Eq (.blt "len" (.cons (.var 0) .nil)) (.int 3))) (.cons (.set 4 (.call 3 (.cons (.var 1) (.cons (.ix (.var 0) (.int 2)) .nil)))) (.cons (.ife (.and (.val (.call 5 (.cons (.var 1) (.cons (.var 3) (.cons (.var 4) .nil))))) (.cmp .NotEq (.var 3) (.var 4))) (.cons (.ret [] (.tup (.cons (.str "copy") (.cons (.var 3) (.cons (.var 4) .nil))))) .nil) .nil) .nil)) .nil) b9_1)
noncomputable def b9_3 : Ss := (.cons (.ife (.and (.cmp .Eq (.var 2) (.str "tick")) (.and (.cmp .Eq (.blt "len" (.cons (.var 0) .nil)) (.int 2)) (.cmp .Eq (.call 0 (.cons (.var 1) (.cons (.var 3) .nil))) (.int 1)))) (.cons (.ret [] (.tup (.cons (.str "tick") (.cons (.var 3) .nil)))) .nil) .nil) b9_2)
noncomputable def b9_4 : Ss := (.cons (.ife (.and (.cmp .Eq (.var 2) (.str "none")) (.cmp .Eq (.blt "len" (.cons (.var 0) .nil)) (.int 2))) (.cons (.ret [] (.tup (.cons (.str "none") (.cons (.var 3) .nil)))) .nil) .nil) b9_3)
noncomputable def b9_5 : Ss := (.cons (.ife (.cmp .Is (.var 3) .non) (.cons (.ret [] .non) .nil) .nil) b9_4)
noncomputable def b9_6 : Ss := (.cons (.set 3 (.call 3 (.cons (.var 1) (.cons (.ix (.var 0) (.int 1)) .nil)))) b9_5)
noncomputable def b9_7 : Ss := (.cons (.ife (.and (.cmp .Eq (.var 2) (.str "still")) (.and (.cmp .Eq (.blt "len" (.cons (.var 0) .nil)) (.int 2)) (.cmp .IsNot (.call 4 (.cons (.ix (.var 0) (.int 1)) .nil)) .non))) (.cons (.ret [] (.tup (.cons (.str "still") (.cons (.call 4 (.cons (.ix (.var 0) (.int 1)) .nil)) .nil)))) .nil) .nil) b9_6)
noncomputable def b9 : Ss := (.cons (.set 2 (.ix (.var 0) (.int 0))) b9_7)
noncomputable def f9 : Fn := ⟨"short_by", "short_by", ["words", "boxes", "head", "x", "y"], ["words", "boxes"], [], true, b9, 0⟩
/-- deed_by -/
noncomputable def b10_0 : Ss := (.cons (.ret [] .non) .nil)
noncomputable def b10_1 : Ss := (.cons (.ife (.or (.cmp .Eq (.blt "len" (.cons (.var 0) .nil)) (.int 2)) (.cmp .Eq (.blt "len" (.cons (.var 0) .nil)) (.int 3))) (.cons (.ret [] (.call 9 (.cons (.var 0) (.cons (.var 1) .nil)))) .nil) .nil) b10_0)
noncomputable def b10_2 : Ss := (.cons (.ife (.and (.cmp .Eq (.ix (.var 0) (.int 0)) (.str "anew")) (.cmp .Eq (.blt "len" (.cons (.var 0) .nil)) (.int 6))) (.cons (.ret [] (.call 8 (.cons (.var 0) (.cons (.var 1) .nil)))) .nil) .nil) b10_1)
noncomputable def b10_3 : Ss := (.cons (.ife (.and (.cmp .Eq (.ix (.var 0) (.int 0)) (.str "here")) (.cmp .Eq (.blt "len" (.cons (.var 0) .nil)) (.int 6))) (.cons (.ret [] (.call 7 (.cons (.var 0) (.cons (.var 1) .nil)))) .nil) .nil) b10_2)
noncomputable def b10 : Ss := (.cons (.ife (.and (.cmp .Eq (.ix (.var 0) (.int 0)) (.str "put")) (.cmp .Gt (.blt "len" (.cons (.var 0) .nil)) (.int 2))) (.cons (.ret [] (.call 6 (.cons (.var 0) (.cons (.var 1) .nil)))) .nil) .nil) b10_3)
noncomputable def f10 : Fn := ⟨"deed_by", "deed_by", ["words", "boxes"], ["words", "boxes"], [], true, b10, 0⟩
/-- Reader.__init__ -/
noncomputable def b11_0 : Ss := (.cons (.fld (.var 0) "stretches" Cs (.lst .nil)) .nil)
noncomputable def b11_1 : Ss := (.cons (.fld (.var 0) "places" Cs (.lst .nil)) b11_0)
noncomputable def b11_2 : Ss := (.cons (.fld (.var 0) "at" Cs (.neg (.int 1))) b11_1)
noncomputable def b11_3 : Ss := (.cons (.fld (.var 0) "rows" Cs (.lst .nil)) b11_2)
noncomputable def b11_4 : Ss := (.cons (.fld (.var 0) "bells" Cs (.lst .nil)) b11_3)
noncomputable def b11 : Ss := (.cons (.fld (.var 0) "boxes" Cs (.lst .nil)) b11_4)
noncomputable def f11 : Fn := ⟨"__init__", "Reader.__init__", ["self"], ["self"], [true], false, b11, 0⟩
/-- Reader.take -/
noncomputable def b12_0 : Ss := (.cons (.ret [0] (.bl true)) .nil)
noncomputable def b12_1 : Ss := (.cons (.app (.att (.var 0) "places" Cs) (.tup (.cons (.var 2) (.cons (.var 3) .nil)))) b12_0)
noncomputable def b12_2 : Ss := (.cons (.orO 3 4 (.att (.var 0) "stretches" Cs)) b12_1)
noncomputable def b12_3 : Ss := (.cons (.set 3 (.int 0)) b12_2)
noncomputable def b12_4 : Ss := (.cons (.ife (.or (.cmp .Is (.var 2) .non) (.cmp .Eq (.blt "len" (.cons (.att (.var 0) "places" Cs) .nil)) (.int 12))) (.cons (.ret [0] (.bl false)) .nil) .nil) b12_3)
noncomputable def b12_5 : Ss := (.cons (.set 2 (.call 10 (.cons (.var 1) (.cons (.att (.var 0) "boxes" Cs) .nil)))) b12_4)
noncomputable def b12_6 : Ss := (.cons (.ife (.cmp .Eq (.ix (.var 1) (.int 0)) (.str "open")) (.cons (.ife (.or (.cmp .Gt (.blt "len" (.cons (.var 1) .nil)) (.int 1)) (.not (.val (.att (.var 0) "stretches" Cs)))) (.cons (.ret [0] (.bl false)) .nil) .nil) (.cons (.pop (.att (.var 0) "stretches" Cs)) (.cons (.ret [0] (.bl true)) .nil))) .nil) b12_5)
noncomputable def b12_7 : Ss := (.cons (.ife (.cmp .Eq (.ix (.var 1) (.int 0)) (.str "shut")) (.cons (.ret [0] (.lmcall (.var 0) "take_shut" T_take_shut (.cons (.var 1) .nil))) .nil) .nil) b12_6)
noncomputable def b12_8 : Ss := (.cons (.ife (.cmp .Eq (.att (.var 0) "at" Cs) (.neg (.int 1))) (.cons (.ret [0] (.bl false)) .nil) .nil) b12_7)
noncomputable def b12_9 : Ss := (.cons (.ife (.cmp .Eq (.ix (.var 1) (.int 0)) (.str "row")) (.cons (.ret [0] (.lmcall (.var 0) "take_row" T_take_row (.cons (.var 1) .nil))) .nil) .nil) b12_8)
noncomputable def b12_10 : Ss := (.cons (.ife (.and (.cmp .Eq (.att (.var 0) "at" Cs) (.neg (.int 1))) (.cmp .Eq (.ix (.var 1) (.int 0)) (.str "bell"))) (.cons (.ret [0] (.lmcall (.var 0) "take_bell" T_take_bell (.cons (.var 1) .nil))) .nil) .nil) b12_9)
noncomputable def b12 : Ss := (.cons (.ife (.and (.cmp .Eq (.att (.var 0) "at" Cs) (.neg (.int 1))) (.and (.cmp .Eq (.ix (.var 1) (.int 0)) (.str "box")) (.not (.val (.att (.var 0) "bells" Cs))))) (.cons (.ret [0] (.lmcall (.var 0) "take_box" T_take_box (.cons (.var 1) .nil))) .nil) .nil) b12_10)
noncomputable def f12 : Fn := ⟨"take", "Reader.take", ["self", "words", "deed", "shut", "word"], ["self", "words"], [true, false], false, b12, 0⟩
/-- Reader.take_box -/
noncomputable def b13_0 : Ss := (.cons (.ret [0] (.bl true)) .nil)
noncomputable def b13_1 : Ss := (.cons (.app (.att (.var 0) "boxes" Cs) (.tup (.cons (.ix (.var 1) (.int 1)) (.cons (.blt "tuple" (.cons (.var 2) .nil)) .nil)))) b13_0)
noncomputable def b13_2 : Ss := (.cons (.ife (.or (.not (.val (.call 1 (.cons (.ix (.var 1) (.int 1)) .nil)))) (.or (.cmp .IsNot (.call 3 (.cons (.att (.var 0) "boxes" Cs) (.cons (.ix (.var 1) (.int 1)) .nil))) .non) (.cmp .In .non (.var 2)))) (.cons (.ret [0] (.bl false)) .nil) .nil) b13_1)
noncomputable def b13_3 : Ss := (.cons (.set 2 (.comp (.call 2 (.cons (.var 3) .nil)) (.name 3) [("word", 3)] (.val (.slc (.var 1) (.some (.int 2)) .no)) .yes)) b13_2)
noncomputable def b13 : Ss := (.cons (.ife (.or (.cmp .Eq (.blt "len" (.cons (.att (.var 0) "boxes" Cs) .nil)) (.int 8)) (.cmp .NotIn (.blt "len" (.cons (.var 1) .nil)) (.tup (.cons (.int 3) (.cons (.int 4) .nil))))) (.cons (.ret [0] (.bl false)) .nil) .nil) b13_3)
noncomputable def f13 : Fn := ⟨"take_box", "Reader.take_box", ["self", "words", "starts", "word"], ["self", "words"], [true, false], false, b13, 0⟩
/-- Reader.take_bell -/
noncomputable def b14_0 : Ss := (.cons (.ret [0] (.bl true)) .nil)
noncomputable def b14_1 : Ss := (.cons (.app (.att (.var 0) "bells" Cs) (.tup (.cons (.ix (.var 1) (.int 1)) (.cons (.call 4 (.cons (.ix (.var 1) (.int 2)) .nil)) .nil)))) b14_0)
noncomputable def b14_2 : Ss := (.cons (.ife (.cmp .Is (.call 4 (.cons (.ix (.var 1) (.int 2)) .nil)) .non) (.cons (.ret [0] (.bl false)) .nil) .nil) b14_1)
noncomputable def b14_3 : Ss := (.cons (.ife (.or (.not (.val (.call 1 (.cons (.ix (.var 1) (.int 1)) .nil)))) (.cmp .IsNot (.call 3 (.cons (.att (.var 0) "bells" Cs) (.cons (.ix (.var 1) (.int 1)) .nil))) .non)) (.cons (.ret [0] (.bl false)) .nil) .nil) b14_2)
noncomputable def b14 : Ss := (.cons (.ife (.or (.cmp .Eq (.blt "len" (.cons (.att (.var 0) "bells" Cs) .nil)) (.int 6)) (.or (.cmp .NotEq (.blt "len" (.cons (.var 1) .nil)) (.int 3)) (.cmp .Eq (.ix (.var 1) (.int 1)) (.str "main")))) (.cons (.ret [0] (.bl false)) .nil) .nil) b14_3)
noncomputable def f14 : Fn := ⟨"take_bell", "Reader.take_bell", ["self", "words"], ["self", "words"], [true, false], false, b14, 0⟩
/-- Reader.take_row -/
noncomputable def b15_0 : Ss := (.cons (.ret [0] (.bl true)) .nil)
noncomputable def b15_1 : Ss := (.cons (.fld (.var 0) "places" Cs (.lst .nil)) b15_0)
noncomputable def b15_2 : Ss := (.cons (.fld (.var 0) "at" Cs (.bin .Add (.att (.var 0) "at" Cs) (.int 1))) b15_1)
noncomputable def b15_3 : Ss := (.cons (.ife (.cmp .GtE (.att (.var 0) "at" Cs) (.int 0)) (.cons (.app (.att (.var 0) "rows" Cs) (.blt "tuple" (.cons (.att (.var 0) "places" Cs) .nil))) .nil) .nil) b15_2)
noncomputable def b15_4 : Ss := (.cons (.ife (.cmp .NotEq (.ix (.var 1) (.int 1)) (.var 2)) (.cons (.ret [0] (.bl false)) .nil) .nil) b15_3)
noncomputable def b15_5 : Ss := (.cons (.ife (.cmp .Eq (.att (.var 0) "at" Cs) (.neg (.int 1))) (.cons (.set 2 (.str "main")) .nil) (.cons (.set 2 (.ix (.ix (.att (.var 0) "bells" Cs) (.att (.var 0) "at" Cs)) (.int 0))) (.cons (.ife (.or (.not (.val (.att (.var 0) "places" Cs))) (.val (.att (.var 0) "stretches" Cs))) (.cons (.ret [0] (.bl false)) .nil) .nil) .nil))) b15_4)
noncomputable def b15 : Ss := (.cons (.ife (.or (.cmp .NotEq (.blt "len" (.cons (.var 1) .nil)) (.int 2)) (.cmp .Eq (.att (.var 0) "at" Cs) (.blt "len" (.cons (.att (.var 0) "bells" Cs) .nil)))) (.cons (.ret [0] (.bl false)) .nil) .nil) b15_5)
noncomputable def f15 : Fn := ⟨"take_row", "Reader.take_row", ["self", "words", "due"], ["self", "words"], [true, false], false, b15, 0⟩
/-- Reader.take_shut -/
noncomputable def b16_0 : Ss := (.cons (.ret [0] (.cmp .Gt (.var 2) (.int 0))) .nil)
noncomputable def b16_1 : Ss := (.cons (.app (.att (.var 0) "stretches" Cs) (.var 2)) b16_0)
noncomputable def b16_2 : Ss := (.cons (.set 2 (.bin .BitOr (.var 2) (.bin .LShift (.int 1) (.bin .Add (.var 4) (.int 1))))) .nil)
noncomputable def b16_3 : Ss := (.cons (.ife (.cmp .Is (.var 4) .non) (.cons (.ret [0] (.bl false)) .nil) .nil) b16_2)
noncomputable def b16_4 : Ss := (.cons (.set 4 (.call 3 (.cons (.att (.var 0) "bells" Cs) (.cons (.var 3) .nil)))) b16_3)
noncomputable def b16_5 : Ss := (.cons (.for (.name 3) (.val (.slc (.var 1) (.some (.int 1)) .no)) b16_4) b16_1)
noncomputable def b16_6 : Ss := (.cons (.ife (.cmp .Eq (.blt "len" (.cons (.att (.var 0) "stretches" Cs) .nil)) (.int 12)) (.cons (.ret [0] (.bl false)) .nil) .nil) b16_5)
noncomputable def b16 : Ss := (.cons (.set 2 (.int 0)) b16_6)
noncomputable def f16 : Fn := ⟨"take_shut", "Reader.take_shut", ["self", "words", "shut", "name", "k"], ["self", "words"], [true, false], false, b16, 0⟩
/-- Reader.ended -/
noncomputable def b17 : Ss := (.cons (.ret [] (.and (.cmp .Eq (.att (.var 0) "at" Cs) (.blt "len" (.cons (.att (.var 0) "bells" Cs) .nil))) (.and (.cmp .Gt (.blt "len" (.cons (.att (.var 0) "places" Cs) .nil)) (.int 0)) (.not (.att (.var 0) "stretches" Cs))))) .nil)
noncomputable def f17 : Fn := ⟨"ended", "Reader.ended", ["self"], ["self"], [], false, b17, 0⟩
/-- Reader.made -/
noncomputable def b18_0 : Ss := (.cons (.ret [] (.tup (.cons (.blt "tuple" (.cons (.att (.var 0) "boxes" Cs) .nil)) (.cons (.blt "tuple" (.cons (.var 3) .nil)) .nil)))) .nil)
noncomputable def b18_1 : Ss := (.cons (.set 3 (.comp (.bin .Add (.ix (.var 1) (.var 4)) (.tup (.cons (.ix (.var 2) (.var 4)) .nil))) (.name 4) [("k", 4)] (.range1 (.blt "len" (.cons (.var 1) .nil))) .yes)) b18_0)
noncomputable def b18_2 : Ss := (.cons (.set 2 (.bin .Add (.att (.var 0) "rows" Cs) (.lst (.cons (.blt "tuple" (.cons (.att (.var 0) "places" Cs) .nil)) .nil)))) b18_1)
noncomputable def b18 : Ss := (.cons (.set 1 (.bin .Add (.lst (.cons (.tup (.cons (.str "main") (.cons (.int 0) .nil))) .nil)) (.att (.var 0) "bells" Cs))) b18_2)
noncomputable def f18 : Fn := ⟨"made", "Reader.made", ["self", "heads", "places", "rows", "k"], ["self"], [], false, b18, 0⟩
/-- read -/
noncomputable def b19_0 : Ss := (.cons (.ret [] (.mcall (.var 1) "made" T_made .nil)) .nil)
noncomputable def b19_1 : Ss := (.cons (.ife (.not (.val (.mcall (.var 1) "ended" T_ended .nil))) (.cons .wall .nil) .nil) b19_0)
noncomputable def b19_2 : Ss := (.cons (.ife (.not (.val (.lmcall (.var 1) "take" T_take (.cons (.meth "split" (.var 3) (.str " ")) .nil)))) (.cons .wall .nil) .nil) .nil)
noncomputable def b19_3 : Ss := (.cons (.for (.tup [2, 3]) (.enum (.var 0)) b19_2) b19_1)
noncomputable def b19 : Ss := (.cons (.set 1 (.new "Reader" 11 .nil)) b19_3)
noncomputable def f19 : Fn := ⟨"read", "read", ["lines", "reader", "k", "line"], ["lines"], [], true, b19, 0⟩
/-- _law_draw -/
noncomputable def b20_0 : Ss := (.cons (.ret [] (.bin .Mod (.bin .Mod (.bin .Add (.bin .Mult (.var 3) (.int 48271)) (.bin .Mult (.bin .Mult (.bin .Add (.var 1) (.int 1)) (.bin .Add (.var 1) (.int 5))) (.int 69621))) (.int 2147483629)) (.var 2))) .nil)
noncomputable def b20_1 : Ss := (.cons (.ife (.cmp .Gt (.blt "len" (.cons (.var 0) .nil)) (.int 0)) (.cons (.set 3 (.bin .Mod (.ix (.var 0) (.bin .Mod (.var 1) (.blt "len" (.cons (.var 0) .nil)))) (.int 2147483647))) .nil) .nil) b20_0)
noncomputable def b20 : Ss := (.cons (.set 3 (.int 0)) b20_1)
noncomputable def f20 : Fn := ⟨"_law_draw", "_law_draw", ["_law_script", "_law_k", "_law_many", "_law_cell"], ["_law_script", "_law_k", "_law_many"], [], true, b20, 0⟩
/-- _law_same -/
noncomputable def b21_0 : Ss := (.cons (.ret [] (.and (.isi (.var 0) "str") (.cmp .Eq (.var 0) (.var 1)))) .nil)
noncomputable def b21_1 : Ss := (.cons (.ife (.cmp .Is (.var 1) .non) (.cons (.ret [] (.cmp .Is (.var 0) .non)) .nil) .nil) b21_0)
noncomputable def b21_2 : Ss := (.cons (.ife (.val (.isi (.var 1) "int")) (.cons (.ret [] (.and (.isi (.var 0) "int") (.cmp .Eq (.var 0) (.var 1)))) .nil) .nil) b21_1)
noncomputable def b21_3 : Ss := (.cons (.ife (.or (.val (.isi (.var 1) "bool")) (.val (.isi (.var 0) "bool"))) (.cons (.ret [] (.and (.isi (.var 1) "bool") (.and (.isi (.var 0) "bool") (.cmp .Eq (.var 0) (.var 1))))) .nil) .nil) b21_2)
noncomputable def b21 : Ss := (.cons (.ife (.or (.val (.isi (.var 1) "tuple")) (.val (.isi (.var 1) "list"))) (.cons (.ife (.or (.cmp .NotEq (.isi (.var 0) "tuple") (.isi (.var 1) "tuple")) (.cmp .NotEq (.isi (.var 0) "list") (.isi (.var 1) "list"))) (.cons (.ret [] (.bl false)) .nil) .nil) (.cons (.ret [] (.and (.cmp .Eq (.blt "len" (.cons (.var 0) .nil)) (.blt "len" (.cons (.var 1) .nil))) (.blt "all" (.cons (.comp (.call 21 (.cons (.var 2) (.cons (.var 3) .nil))) (.tup [2, 3]) [("_law_one", 2), ("_law_other", 3)] (.zip (.var 0) (.var 1)) .yes) .nil)))) .nil)) .nil) b21_3)
noncomputable def f21 : Fn := ⟨"_law_same", "_law_same", ["_law_found", "_law_due", "_law_one", "_law_other"], ["_law_found", "_law_due"], [], true, b21, 0⟩
/-- _law_names -/
noncomputable def b22_0 : Ss := (.cons (.ret [] (.var 6)) .nil)
noncomputable def b22_1 : Ss := (.cons (.app (.var 6) (.meth "join" (.str "") (.var 10))) .nil)
noncomputable def b22_2 : Ss := (.cons (.stx (.var 10) (.var 8) (.ix (.var 3) (.bin .Mod (.bin .Add (.call 20 (.cons (.var 0) (.cons (.bin .Add (.var 1) (.int 11)) (.cons (.int 26) .nil)))) (.bin .Mult (.int 3) (.var 9))) (.int 26)))) b22_1)
noncomputable def b22_3 : Ss := (.cons (.set 10 (.slc (.var 4) .no (.some (.var 7)))) b22_2)
noncomputable def b22_4 : Ss := (.cons (.ife (.cmp .Eq (.var 5) (.int 3)) (.cons (.set 6 (.lst .nil)) (.cons (.set 7 (.bin .Add (.int 1) (.call 20 (.cons (.var 0) (.cons (.bin .Add (.var 1) (.int 9)) (.cons (.int 8) .nil)))))) (.cons (.set 8 (.call 20 (.cons (.var 0) (.cons (.bin .Add (.var 1) (.int 10)) (.cons (.var 7) .nil))))) (.cons (.for (.name 9) (.range1 (.var 2)) b22_3) .nil)))) .nil) b22_0)
noncomputable def b22_5 : Ss := (.cons (.ife (.cmp .Eq (.var 5) (.int 2)) (.cons (.set 6 (.comp (.meth "join" (.str "") (.slc (.var 4) (.some (.bin .Sub (.int 7) (.var 9))) .no)) (.name 9) [("_law_k", 9)] (.range1 (.var 2)) .yes)) .nil) .nil) b22_4)
noncomputable def b22_6 : Ss := (.cons (.ife (.cmp .Eq (.var 5) (.int 1)) (.cons (.set 6 (.comp (.meth "join" (.str "") (.slc (.var 4) .no (.some (.bin .Add (.var 9) (.int 1))))) (.name 9) [("_law_k", 9)] (.range1 (.var 2)) .yes)) .nil) .nil) b22_5)
noncomputable def b22_7 : Ss := (.cons (.set 6 (.slc (.lst (.cons (.str "row") (.cons (.str "open") (.cons (.str "here") (.cons (.str "main") (.cons (.str "is") (.cons (.str "box") (.cons (.str "plus") (.cons (.str "by") .nil))))))))) .no (.some (.var 2)))) b22_6)
noncomputable def b22_8 : Ss := (.cons (.set 5 (.call 20 (.cons (.var 0) (.cons (.bin .Add (.var 1) (.int 8)) (.cons (.int 4) .nil))))) b22_7)
noncomputable def b22_9 : Ss := (.cons (.set 4 (.comp (.ix (.var 3) (.call 20 (.cons (.var 0) (.cons (.bin .Add (.var 1) (.var 9)) (.cons (.int 26) .nil))))) (.name 9) [("_law_k", 9)] (.range1 (.int 8)) .yes)) b22_8)
noncomputable def b22 : Ss := (.cons (.set 3 (.str "abcdefghijklmnopqrstuvwxyz")) b22_9)
noncomputable def f22 : Fn := ⟨"_law_names", "_law_names", ["_law_script", "_law_base", "_law_many", "_law_letters", "_law_word", "_law_style", "_law_names_here", "_law_size", "_law_at", "_law_k", "_law_signs"], ["_law_script", "_law_base", "_law_many"], [], true, b22, 0⟩
/-- _law_shut -/
noncomputable def b23_0 : Ss := (.cons (.ret [] (.tup (.cons (.bin .Add (.str "shut ") (.meth "join" (.str " ") (.comp (.ix (.var 2) (.var 5)) (.name 5) [("_law_k", 5)] (.val (.var 3)) .yes))) (.cons (.var 4) .nil)))) .nil)
noncomputable def b23_1 : Ss := (.cons (.set 4 (.bin .BitOr (.var 4) (.bin .LShift (.int 2) (.var 5)))) .nil)
noncomputable def b23_2 : Ss := (.cons (.for (.name 5) (.val (.var 3)) b23_1) b23_0)
noncomputable def b23_3 : Ss := (.cons (.set 4 (.int 0)) b23_2)
noncomputable def b23 : Ss := (.cons (.set 3 (.comp (.call 20 (.cons (.var 0) (.cons (.bin .Add (.var 1) (.var 5)) (.cons (.blt "len" (.cons (.var 2) .nil)) .nil)))) (.name 5) [("_law_k", 5)] (.range1 (.bin .Add (.int 1) (.call 20 (.cons (.var 0) (.cons (.bin .Add (.var 1) (.int 3)) (.cons (.int 3) .nil)))))) .yes)) b23_3)
noncomputable def f23 : Fn := ⟨"_law_shut", "_law_shut", ["_law_script", "_law_at", "_law_names_here", "_law_some", "_law_word", "_law_k"], ["_law_script", "_law_at", "_law_names_here"], [], true, b23, 0⟩
/-- _law_row -/
noncomputable def b24_0 : Ss := (.cons (.ret [] (.tup (.cons (.var 4) (.cons (.blt "tuple" (.cons (.var 5) .nil)) .nil)))) .nil)
noncomputable def b24_1 : Ss := (.cons (.ife (.cmp .Lt (.var 8) (.int 2)) (.cons (.set 4 (.bin .Add (.var 4) (.comp (.bin .Add (.str "shut ") (.ix (.var 2) (.bin .Mod (.var 8) (.blt "len" (.cons (.var 2) .nil))))) (.name 7) [("_law_k", 7)] (.range1 (.bin .Add (.var 8) (.int 1))) .yes))) (.cons (.set 4 (.bin .Add (.var 4) (.comp (.str "open") (.name 7) [("_law_k", 7)] (.range1 (.bin .Add (.var 8) (.int 1))) .yes))) .nil)) .nil) b24_0)
noncomputable def b24_2 : Ss := (.cons (.set 8 (.call 20 (.cons (.var 0) (.cons (.bin .Add (.var 1) (.int 127)) (.cons (.int 6) .nil))))) b24_1)
noncomputable def b24_3 : Ss := (.cons (.app (.var 5) (.tup (.cons (.tup (.cons (.str "still") (.cons (.int 9) .nil))) (.cons (.int 0) .nil)))) b24_2)
noncomputable def b24_4 : Ss := (.cons (.set 4 (.bin .Add (.bin .Add (.var 4) (.comp (.str "open") (.name 14) [("_law_one", 14)] (.val (.var 6)) .yes)) (.lst (.cons (.str "still 9") .nil)))) b24_3)
noncomputable def b24_5 : Ss := (.cons (.ife (.and (.cmp .In (.var 10) (.tup (.cons (.int 3) (.cons (.int 4) .nil)))) (.cmp .Lt (.blt "len" (.cons (.var 5) .nil)) (.int 11))) (.cons (.set 12 (.bin .Add (.int 1) (.call 20 (.cons (.var 0) (.cons (.bin .Add (.var 9) (.int 1)) (.cons (.int 9) .nil)))))) (.cons (.app (.var 4) (.bin .Add (.str "still ") (.blt "str" (.cons (.var 12) .nil)))) (.cons (.set 13 (.int 0)) (.cons (.orO 13 14 (.var 6)) (.cons (.app (.var 5) (.tup (.cons (.tup (.cons (.str "still") (.cons (.var 12) .nil))) (.cons (.var 13) .nil)))) .nil))))) .nil) .nil)
noncomputable def b24_6 : Ss := (.cons (.ife (.and (.cmp .Eq (.var 10) (.int 5)) (.cmp .Gt (.blt "len" (.cons (.var 6) .nil)) (.int 0))) (.cons (.pop (.var 6)) (.cons (.app (.var 4) (.str "open")) .nil)) .nil) b24_5)
noncomputable def b24_7 : Ss := (.cons (.ife (.and (.cmp .Lt (.var 10) (.bin .Add (.int 1) (.var 3))) (.cmp .Lt (.blt "len" (.cons (.var 6) .nil)) (.int 12))) (.cons (.set 11 (.call 23 (.cons (.var 0) (.cons (.bin .Add (.var 9) (.int 1)) (.cons (.var 2) .nil))))) (.cons (.app (.var 4) (.ix (.var 11) (.int 0))) (.cons (.app (.var 6) (.ix (.var 11) (.int 1))) .nil))) .nil) b24_6)
noncomputable def b24_8 : Ss := (.cons (.set 10 (.call 20 (.cons (.var 0) (.cons (.var 9) (.cons (.int 6) .nil))))) b24_7)
noncomputable def b24_9 : Ss := (.cons (.set 9 (.bin .Add (.bin .Add (.var 1) (.int 1)) (.bin .Mult (.int 6) (.var 7)))) b24_8)
noncomputable def b24_10 : Ss := (.cons (.for (.name 7) (.range1 (.call 20 (.cons (.var 0) (.cons (.var 1) (.cons (.int 21) .nil))))) b24_9) b24_4)
noncomputable def b24_11 : Ss := (.cons (.set 6 (.lst .nil)) b24_10)
noncomputable def b24_12 : Ss := (.cons (.set 5 (.lst .nil)) b24_11)
noncomputable def b24 : Ss := (.cons (.set 4 (.lst .nil)) b24_12)
noncomputable def f24 : Fn := ⟨"_law_row", "_law_row", ["_law_script", "_law_base", "_law_names_here", "_law_often", "_law_lines", "_law_places", "_law_stack", "_law_k", "_law_ends", "_law_at", "_law_way", "_law_told", "_law_number", "_law_word", "_law_one"], ["_law_script", "_law_base", "_law_names_here", "_law_often"], [], true, b24, 0⟩
/-- law -/
noncomputable def b25_0 : Ss := (.cons (.ret [] (.call 21 (.cons (.call 19 (.cons (.blt "list" (.cons (.var 4) .nil)) .nil)) (.cons (.tup (.cons (.tup .nil) (.cons (.blt "tuple" (.cons (.var 6) .nil)) .nil))) .nil)))) .nil)
noncomputable def b25_1 : Ss := (.cons (.app (.var 6) (.tup (.cons (.var 8) (.cons (.var 9) (.cons (.ix (.var 7) (.int 1)) .nil))))) .nil)
noncomputable def b25_2 : Ss := (.cons (.set 4 (.bin .Add (.bin .Add (.var 4) (.lst (.cons (.bin .Add (.str "row ") (.var 8)) .nil))) (.ix (.var 7) (.int 0)))) b25_1)
noncomputable def b25_3 : Ss := (.cons (.ife (.cmp .Gt (.var 5) (.int 0)) (.cons (.set 9 (.bin .Add (.int 1) (.call 20 (.cons (.var 0) (.cons (.bin .Add (.int 13) (.var 5)) (.cons (.int 9) .nil)))))) .nil) .nil) b25_2)
noncomputable def b25_4 : Ss := (.cons (.set 9 (.int 0)) b25_3)
noncomputable def b25_5 : Ss := (.cons (.set 8 (.ix (.bin .Add (.lst (.cons (.str "main") .nil)) (.var 2)) (.var 5))) b25_4)
noncomputable def b25_6 : Ss := (.cons (.set 7 (.call 24 (.cons (.var 0) (.cons (.bin .Add (.int 30) (.bin .Mult (.int 130) (.var 5))) (.cons (.var 2) (.cons (.var 3) .nil)))))) b25_5)
noncomputable def b25_7 : Ss := (.cons (.for (.name 5) (.range1 (.bin .Add (.var 1) (.int 1))) b25_6) b25_0)
noncomputable def b25_8 : Ss := (.cons (.set 6 (.lst .nil)) b25_7)
noncomputable def b25_9 : Ss := (.cons (.app (.var 4) (.bin .Add (.bin .Add (.bin .Add (.str "bell ") (.ix (.var 2) (.var 5))) (.str " ")) (.blt "str" (.cons (.bin .Add (.int 1) (.call 20 (.cons (.var 0) (.cons (.bin .Add (.int 14) (.var 5)) (.cons (.int 9) .nil))))) .nil)))) .nil)
noncomputable def b25_10 : Ss := (.cons (.for (.name 5) (.range1 (.var 1)) b25_9) b25_8)
noncomputable def b25_11 : Ss := (.cons (.set 4 (.lst .nil)) b25_10)
noncomputable def b25_12 : Ss := (.cons (.set 3 (.bin .Mult (.int 2) (.blt "int" (.cons (.cmp .Eq (.call 20 (.cons (.var 0) (.cons (.int 13) (.cons (.int 3) .nil)))) (.int 0)) .nil)))) b25_11)
noncomputable def b25_13 : Ss := (.cons (.ife (.cmp .In (.str "main") (.var 2)) (.cons (.set 2 (.comp (.slc (.str "xxxxxx") .no (.some (.bin .Add (.var 5) (.int 1)))) (.name 5) [("_law_k", 5)] (.range1 (.var 1)) .yes)) .nil) .nil) b25_12)
noncomputable def b25_14 : Ss := (.cons (.set 2 (.call 22 (.cons (.var 0) (.cons (.int 1) (.cons (.var 1) .nil))))) b25_13)
noncomputable def b25 : Ss := (.cons (.set 1 (.bin .Add (.int 1) (.call 20 (.cons (.var 0) (.cons (.int 0) (.cons (.int 6) .nil)))))) b25_14)
noncomputable def f25 : Fn := ⟨"law", "law", ["_law_script", "_law_bells", "_law_names_here", "_law_often", "_law_lines", "_law_k", "_law_rows", "_law_made", "_law_name", "_law_rank"], ["_law_script"], [], true, b25, 0⟩
noncomputable def P : List Fn := [f0, f1, f2, f3, f4, f5, f6, f7, f8, f9, f10, f11, f12, f13, f14, f15, f16, f17, f18, f19, f20, f21, f22, f23, f24, f25]
noncomputable def rs : RegS := ⟨fun g => noNF, fun g => false, fun l c => Str.empty⟩
noncomputable instance rsI : RegS := rs
noncomputable def RG (ads : List Addr) : Reg := { toRegS := rs, ad := fun _ => ads }
noncomputable def Gl : List (Str × PV) := [("BOUND", (.int 1000000000)), ("FIGURES", (.str "0123456789")), ("RANKS", (.str "123456789")), ("LETTERS", (.str "abcdefghijklmnopqrstuvwxyz"))]
theorem r0 (n : Nat) {a0 a1 : PV} : fv (fns P (lu n)) 0 [a0, a1] = finK (exs (fns P n) b0 [some (.sh a0), some (.sh a1)]) := fv_run (f := f0) rfl rfl rfl
theorem r1 (n : Nat) {a0 : PV} : fv (fns P (lu n)) 1 [a0] = finK (exs (fns P n) b1 [some (.sh a0), none]) := fv_run (f := f1) rfl rfl rfl
theorem r2 (n : Nat) {a0 : PV} : fv (fns P (lu n)) 2 [a0] = finK (exs (fns P n) b2 [some (.sh a0), none, none, none]) := fv_run (f := f2) rfl rfl rfl
theorem r3 (n : Nat) {a0 a1 : PV} : fv (fns P (lu n)) 3 [a0, a1] = finK (exs (fns P n) b3 [some (.sh a0), some (.sh a1), none]) := fv_run (f := f3) rfl rfl rfl
theorem r4 (n : Nat) {a0 : PV} : fv (fns P (lu n)) 4 [a0] = finK (exs (fns P n) b4 [some (.sh a0)]) := fv_run (f := f4) rfl rfl rfl
theorem r9 (n : Nat) {a0 a1 : PV} : fv (fns P (lu n)) 9 [a0, a1] = finK (exs (fns P n) b9 [some (.sh a0), some (.sh a1), none, none, none]) := fv_run (f := f9) rfl rfl rfl
theorem r10 (n : Nat) {a0 a1 : PV} : fv (fns P (lu n)) 10 [a0, a1] = finK (exs (fns P n) b10 [some (.sh a0), some (.sh a1)]) := fv_run (f := f10) rfl rfl rfl
theorem r17 (n : Nat) {a0 : PV} : fv (fns P (lu n)) 17 [a0] = finK (exs (fns P n) b17 [some (.sh a0)]) := fv_run (f := f17) rfl rfl rfl
theorem r18 (n : Nat) {a0 : PV} : fv (fns P (lu n)) 18 [a0] = finK (exs (fns P n) b18 [some (.sh a0), none, none, none, none]) := fv_run (f := f18) rfl rfl rfl
theorem r19 (n : Nat) {a0 : PV} : fv (fns P (lu n)) 19 [a0] = finK (exs (fns P n) b19 [some (.sh a0), none, none, none]) := fv_run (f := f19) rfl rfl rfl
theorem r20 (n : Nat) {a0 a1 a2 : PV} : fv (fns P (lu n)) 20 [a0, a1, a2] = finK (exs (fns P n) b20 [some (.sh a0), some (.sh a1), some (.sh a2), none]) := fv_run (f := f20) rfl rfl rfl
theorem r21 (n : Nat) {a0 a1 : PV} : fv (fns P (lu n)) 21 [a0, a1] = finK (exs (fns P n) b21 [some (.sh a0), some (.sh a1), none, none]) := fv_run (f := f21) rfl rfl rfl
theorem r22 (n : Nat) {a0 a1 a2 : PV} : fv (fns P (lu n)) 22 [a0, a1, a2] = finK (exs (fns P n) b22 [some (.sh a0), some (.sh a1), some (.sh a2), none, none, none, none, none, none, none, none]) := fv_run (f := f22) rfl rfl rfl
theorem r23 (n : Nat) {a0 a1 a2 : PV} : fv (fns P (lu n)) 23 [a0, a1, a2] = finK (exs (fns P n) b23 [some (.sh a0), some (.sh a1), some (.sh a2), none, none, none]) := fv_run (f := f23) rfl rfl rfl
theorem r24 (n : Nat) {a0 a1 a2 a3 : PV} : fv (fns P (lu n)) 24 [a0, a1, a2, a3] = finK (exs (fns P n) b24 [some (.sh a0), some (.sh a1), some (.sh a2), some (.sh a3), none, none, none, none, none, none, none, none, none, none, none]) := fv_run (f := f24) rfl rfl rfl
theorem r25 (n : Nat) {a0 : PV} : fv (fns P (lu n)) 25 [a0] = finK (exs (fns P n) b25 [some (.sh a0), none, none, none, none, none, none, none, none, none]) := fv_run (f := f25) rfl rfl rfl
theorem rl11 (n : Nat) {a0 : Sl} : fns P (lu n) 11 [a0] = finL [true] (exs (fns P n) b11 [some a0]) := run_l (f := f11) rfl rfl
theorem rl12 (n : Nat) {a0 : Sl} {a1 : PV} : fns P (lu n) 12 [a0, .sh a1] = finL [true, false] (exs (fns P n) b12 [some a0, some (.sh a1), none, none, none]) := run_l (f := f12) rfl rfl
theorem rl14 (n : Nat) {a0 : Sl} {a1 : PV} : fns P (lu n) 14 [a0, .sh a1] = finL [true, false] (exs (fns P n) b14 [some a0, some (.sh a1)]) := run_l (f := f14) rfl rfl
theorem rl15 (n : Nat) {a0 : Sl} {a1 : PV} : fns P (lu n) 15 [a0, .sh a1] = finL [true, false] (exs (fns P n) b15 [some a0, some (.sh a1), none]) := run_l (f := f15) rfl rfl
theorem rl16 (n : Nat) {a0 : Sl} {a1 : PV} : fns P (lu n) 16 [a0, .sh a1] = finL [true, false] (exs (fns P n) b16 [some a0, some (.sh a1), none, none, none]) := run_l (f := f16) rfl rfl
theorem pos0_m_made : posS ["boxes", "bells", "rows", "at", "places", "stretches"] "made" = none := by decide
theorem pos0_m_ended : posS ["boxes", "bells", "rows", "at", "places", "stretches"] "ended" = none := by decide
theorem pos0_m_take : posS ["boxes", "bells", "rows", "at", "places", "stretches"] "take" = none := by decide
theorem pos0_m_take_box : posS ["boxes", "bells", "rows", "at", "places", "stretches"] "take_box" = none := by decide
theorem pos0_m_take_bell : posS ["boxes", "bells", "rows", "at", "places", "stretches"] "take_bell" = none := by decide
theorem pos0_m_take_row : posS ["boxes", "bells", "rows", "at", "places", "stretches"] "take_row" = none := by decide
theorem pos0_m_take_shut : posS ["boxes", "bells", "rows", "at", "places", "stretches"] "take_shut" = none := by decide
theorem pos0_boxes : posS ["boxes", "bells", "rows", "at", "places", "stretches"] "boxes" = some 0 := by decide
theorem pos0_bells : posS ["boxes", "bells", "rows", "at", "places", "stretches"] "bells" = some 1 := by decide
theorem pos0_rows : posS ["boxes", "bells", "rows", "at", "places", "stretches"] "rows" = some 2 := by decide
theorem pos0_at : posS ["boxes", "bells", "rows", "at", "places", "stretches"] "at" = some 3 := by decide
theorem pos0_places : posS ["boxes", "bells", "rows", "at", "places", "stretches"] "places" = some 4 := by decide
theorem pos0_stretches : posS ["boxes", "bells", "rows", "at", "places", "stretches"] "stretches" = some 5 := by decide
theorem posn0_0_boxes : posS [] "boxes" = none := by decide
theorem posn0_0_bells : posS [] "bells" = none := by decide
theorem posn0_0_rows : posS [] "rows" = none := by decide
theorem posn0_0_at : posS [] "at" = none := by decide
theorem posn0_0_places : posS [] "places" = none := by decide
theorem posn0_0_stretches : posS [] "stretches" = none := by decide
theorem posn0_1_bells : posS ["boxes"] "bells" = none := by decide
theorem posn0_1_rows : posS ["boxes"] "rows" = none := by decide
theorem posn0_1_at : posS ["boxes"] "at" = none := by decide
theorem posn0_1_places : posS ["boxes"] "places" = none := by decide
theorem posn0_1_stretches : posS ["boxes"] "stretches" = none := by decide
theorem posn0_2_rows : posS ["boxes", "bells"] "rows" = none := by decide
theorem posn0_2_at : posS ["boxes", "bells"] "at" = none := by decide
theorem posn0_2_places : posS ["boxes", "bells"] "places" = none := by decide
theorem posn0_2_stretches : posS ["boxes", "bells"] "stretches" = none := by decide
theorem posn0_3_at : posS ["boxes", "bells", "rows"] "at" = none := by decide
theorem posn0_3_places : posS ["boxes", "bells", "rows"] "places" = none := by decide
theorem posn0_3_stretches : posS ["boxes", "bells", "rows"] "stretches" = none := by decide
theorem posn0_4_places : posS ["boxes", "bells", "rows", "at"] "places" = none := by decide
theorem posn0_4_stretches : posS ["boxes", "bells", "rows", "at"] "stretches" = none := by decide
theorem posn0_5_stretches : posS ["boxes", "bells", "rows", "at", "places"] "stretches" = none := by decide
theorem u2_0 {F : Fns} {env : PEnv} : exs F b2_0 env = exs F (.cons (.ret [] (.neg (.var 2))) .nil) env := Eq.trans rfl rfl
theorem u2_1 {F : Fns} {env : PEnv} : exs F b2_1 env = exs F (.cons (.ife (.cmp .Eq (.var 1) (.var 0)) (.cons (.ret [] (.var 2)) .nil) .nil) b2_0) env := Eq.trans rfl rfl
theorem u2_2 {F : Fns} {env : PEnv} : exs F b2_2 env = exs F (.cons (.ife (.cmp .Gt (.var 2) (.glob "BOUND" (.int 1000000000))) (.cons (.ret [] .non) .nil) .nil) b2_1) env := Eq.trans rfl rfl
theorem u2_3 {F : Fns} {env : PEnv} : exs F b2_3 env = exs F (.cons (.set 2 (.blt "int" (.cons (.var 1) .nil))) b2_2) env := Eq.trans rfl rfl
theorem u2_4 {F : Fns} {env : PEnv} : exs F b2_4 env = exs F (.cons (.ife (.cmp .Eq (.ix (.var 1) (.int 0)) (.str "0")) (.cons (.ife (.cmp .Eq (.var 0) (.str "0")) (.cons (.ret [] (.int 0)) .nil) .nil) (.cons (.ret [] .non) .nil)) .nil) b2_3) env := Eq.trans rfl rfl
theorem u2_5 {F : Fns} {env : PEnv} : exs F b2_5 env = exs F (.cons (.ife (.or (.not (.chain .LtE .LtE (.int 1) (.blt "len" (.cons (.var 1) .nil)) (.int 10))) (.not (.val (.blt "all" (.cons (.comp (.cmp .In (.var 3) (.glob "FIGURES" (.str "0123456789"))) (.name 3) [("sign", 3)] (.val (.var 1)) .yes) .nil))))) (.cons (.ret [] .non) .nil) .nil) b2_4) env := Eq.trans rfl rfl
theorem u2_6 {F : Fns} {env : PEnv} : exs F b2_6 env = exs F (.cons (.ife (.cmp .Eq (.slc (.var 0) .no (.some (.int 1))) (.str "-")) (.cons (.set 1 (.slc (.var 0) (.some (.int 1)) .no)) .nil) .nil) b2_5) env := Eq.trans rfl rfl
theorem u3_0 {F : Fns} {env : PEnv} : exs F b3_0 env = exs F (.cons (.ret [] .non) .nil) env := Eq.trans rfl rfl
theorem u3_1 {F : Fns} {env : PEnv} : exs F b3_1 env = exs F (.cons (.ife (.cmp .Eq (.ix (.ix (.var 0) (.var 2)) (.int 0)) (.var 1)) (.cons (.ret [] (.var 2)) .nil) .nil) .nil) env := Eq.trans rfl rfl
theorem u4_0 {F : Fns} {env : PEnv} : exs F b4_0 env = exs F (.cons (.ret [] .non) .nil) env := Eq.trans rfl rfl
theorem u6_0 {F : Fns} {env : PEnv} : exs F b6_0 env = exs F (.cons (.ret [] (.tup (.cons (.str "put") (.cons (.var 2) (.cons (.blt "tuple" (.cons (.var 3) .nil)) .nil))))) .nil) env := Eq.trans rfl rfl
theorem u6_1 {F : Fns} {env : PEnv} : exs F b6_1 env = exs F (.cons (.ife (.or (.cmp .Is (.var 2) .non) (.or (.cmp .In .non (.var 3)) (.cmp .NotEq (.blt "len" (.cons (.var 3) .nil)) (.call 0 (.cons (.var 1) (.cons (.var 2) .nil)))))) (.cons (.ret [] .non) .nil) .nil) b6_0) env := Eq.trans rfl rfl
theorem u6_2 {F : Fns} {env : PEnv} : exs F b6_2 env = exs F (.cons (.set 3 (.comp (.call 2 (.cons (.var 4) .nil)) (.name 4) [("word", 4)] (.val (.slc (.var 0) (.some (.int 2)) .no)) .yes)) b6_1) env := Eq.trans rfl rfl
theorem u7_0 {F : Fns} {env : PEnv} : exs F b7_0 env = exs F (.cons (.ret [] (.tup (.cons (.ix (.var 0) (.int 2)) (.cons (.var 2) (.cons (.var 3) (.cons (.var 4) .nil)))))) .nil) env := Eq.trans rfl rfl
theorem u7_1 {F : Fns} {env : PEnv} : exs F b7_1 env = exs F (.cons (.ife (.or (.not (.val (.call 5 (.cons (.var 1) (.cons (.var 2) (.cons (.var 3) .nil)))))) (.cmp .Is (.var 4) .non)) (.cons (.ret [] .non) .nil) .nil) b7_0) env := Eq.trans rfl rfl
theorem u7_2 {F : Fns} {env : PEnv} : exs F b7_2 env = exs F (.cons (.ife (.or (.cmp .NotIn (.ix (.var 0) (.int 2)) (.tup (.cons (.str "is") (.cons (.str "most") .nil)))) (.cmp .NotEq (.ix (.var 0) (.int 4)) (.str "plus"))) (.cons (.ret [] .non) .nil) .nil) b7_1) env := Eq.trans rfl rfl
theorem u7_3 {F : Fns} {env : PEnv} : exs F b7_3 env = exs F (.cons (.set 4 (.call 2 (.cons (.ix (.var 0) (.int 5)) .nil))) b7_2) env := Eq.trans rfl rfl
theorem u7_4 {F : Fns} {env : PEnv} : exs F b7_4 env = exs F (.cons (.set 3 (.call 3 (.cons (.var 1) (.cons (.ix (.var 0) (.int 3)) .nil)))) b7_3) env := Eq.trans rfl rfl
theorem u8_0 {F : Fns} {env : PEnv} : exs F b8_0 env = exs F (.cons (.ret [] (.tup (.cons (.str "anew") (.cons (.var 2) (.cons (.var 3) (.cons (.var 4) .nil)))))) .nil) env := Eq.trans rfl rfl
theorem u8_1 {F : Fns} {env : PEnv} : exs F b8_1 env = exs F (.cons (.ife (.or (.cmp .Eq (.var 2) (.var 3)) (.or (.cmp .Eq (.var 2) (.var 4)) (.cmp .Eq (.var 3) (.var 4)))) (.cons (.ret [] .non) .nil) .nil) b8_0) env := Eq.trans rfl rfl
theorem u8_2 {F : Fns} {env : PEnv} : exs F b8_2 env = exs F (.cons (.ife (.or (.not (.val (.call 5 (.cons (.var 1) (.cons (.var 2) (.cons (.var 3) .nil)))))) (.cmp .NotEq (.call 0 (.cons (.var 1) (.cons (.var 4) .nil))) (.int 1))) (.cons (.ret [] .non) .nil) .nil) b8_1) env := Eq.trans rfl rfl
theorem u8_3 {F : Fns} {env : PEnv} : exs F b8_3 env = exs F (.cons (.ife (.or (.cmp .NotEq (.ix (.var 0) (.int 2)) (.str "from")) (.or (.cmp .NotEq (.ix (.var 0) (.int 4)) (.str "by")) (.cmp .Is (.var 4) .non))) (.cons (.ret [] .non) .nil) .nil) b8_2) env := Eq.trans rfl rfl
theorem u8_4 {F : Fns} {env : PEnv} : exs F b8_4 env = exs F (.cons (.set 4 (.call 3 (.cons (.var 1) (.cons (.ix (.var 0) (.int 5)) .nil)))) b8_3) env := Eq.trans rfl rfl
theorem u8_5 {F : Fns} {env : PEnv} : exs F b8_5 env = exs F (.cons (.set 3 (.call 3 (.cons (.var 1) (.cons (.ix (.var 0) (.int 3)) .nil)))) b8_4) env := Eq.trans rfl rfl
theorem u9_0 {F : Fns} {env : PEnv} : exs F b9_0 env = exs F (.cons (.ret [] .non) .nil) env := Eq.trans rfl rfl
theorem u9_1 {F : Fns} {env : PEnv} : exs F b9_1 env = exs F (.cons (.ife (.and (.cmp .Eq (.var 2) (.str "grow")) (.and (.cmp .Eq (.blt "len" (.cons (.var 0) .nil)) (.int 3)) (.cmp .IsNot (.call 2 (.cons (.ix (.var 0) (.int 2)) .nil)) .non))) (.cons (.ret [] (.tup (.cons (.str "grow") (.cons (.var 3) (.cons (.call 2 (.cons (.ix (.var 0) (.int 2)) .nil)) .nil))))) .nil) .nil) b9_0) env := Eq.trans rfl rfl
theorem u9_2 {F : Fns} {env : PEnv} : exs F b9_2 env = exs F (.cons (.ife (.and (.cmp .Eq (.var 2) (.str "copy")) (.cmp .Eq (.blt "len" (.cons (.var 0) .nil)) (.int 3))) (.cons (.set 4 (.call 3 (.cons (.var 1) (.cons (.ix (.var 0) (.int 2)) .nil)))) (.cons (.ife (.and (.val (.call 5 (.cons (.var 1) (.cons (.var 3) (.cons (.var 4) .nil))))) (.cmp .NotEq (.var 3) (.var 4))) (.cons (.ret [] (.tup (.cons (.str "copy") (.cons (.var 3) (.cons (.var 4) .nil))))) .nil) .nil) .nil)) .nil) b9_1) env := Eq.trans rfl rfl
theorem u9_3 {F : Fns} {env : PEnv} : exs F b9_3 env = exs F (.cons (.ife (.and (.cmp .Eq (.var 2) (.str "tick")) (.and (.cmp .Eq (.blt "len" (.cons (.var 0) .nil)) (.int 2)) (.cmp .Eq (.call 0 (.cons (.var 1) (.cons (.var 3) .nil))) (.int 1)))) (.cons (.ret [] (.tup (.cons (.str "tick") (.cons (.var 3) .nil)))) .nil) .nil) b9_2) env := Eq.trans rfl rfl
theorem u9_4 {F : Fns} {env : PEnv} : exs F b9_4 env = exs F (.cons (.ife (.and (.cmp .Eq (.var 2) (.str "none")) (.cmp .Eq (.blt "len" (.cons (.var 0) .nil)) (.int 2))) (.cons (.ret [] (.tup (.cons (.str "none") (.cons (.var 3) .nil)))) .nil) .nil) b9_3) env := Eq.trans rfl rfl
theorem u9_5 {F : Fns} {env : PEnv} : exs F b9_5 env = exs F (.cons (.ife (.cmp .Is (.var 3) .non) (.cons (.ret [] .non) .nil) .nil) b9_4) env := Eq.trans rfl rfl
theorem u9_6 {F : Fns} {env : PEnv} : exs F b9_6 env = exs F (.cons (.set 3 (.call 3 (.cons (.var 1) (.cons (.ix (.var 0) (.int 1)) .nil)))) b9_5) env := Eq.trans rfl rfl
theorem u9_7 {F : Fns} {env : PEnv} : exs F b9_7 env = exs F (.cons (.ife (.and (.cmp .Eq (.var 2) (.str "still")) (.and (.cmp .Eq (.blt "len" (.cons (.var 0) .nil)) (.int 2)) (.cmp .IsNot (.call 4 (.cons (.ix (.var 0) (.int 1)) .nil)) .non))) (.cons (.ret [] (.tup (.cons (.str "still") (.cons (.call 4 (.cons (.ix (.var 0) (.int 1)) .nil)) .nil)))) .nil) .nil) b9_6) env := Eq.trans rfl rfl
theorem u10_0 {F : Fns} {env : PEnv} : exs F b10_0 env = exs F (.cons (.ret [] .non) .nil) env := Eq.trans rfl rfl
theorem u10_1 {F : Fns} {env : PEnv} : exs F b10_1 env = exs F (.cons (.ife (.or (.cmp .Eq (.blt "len" (.cons (.var 0) .nil)) (.int 2)) (.cmp .Eq (.blt "len" (.cons (.var 0) .nil)) (.int 3))) (.cons (.ret [] (.call 9 (.cons (.var 0) (.cons (.var 1) .nil)))) .nil) .nil) b10_0) env := Eq.trans rfl rfl
theorem u10_2 {F : Fns} {env : PEnv} : exs F b10_2 env = exs F (.cons (.ife (.and (.cmp .Eq (.ix (.var 0) (.int 0)) (.str "anew")) (.cmp .Eq (.blt "len" (.cons (.var 0) .nil)) (.int 6))) (.cons (.ret [] (.call 8 (.cons (.var 0) (.cons (.var 1) .nil)))) .nil) .nil) b10_1) env := Eq.trans rfl rfl
theorem u10_3 {F : Fns} {env : PEnv} : exs F b10_3 env = exs F (.cons (.ife (.and (.cmp .Eq (.ix (.var 0) (.int 0)) (.str "here")) (.cmp .Eq (.blt "len" (.cons (.var 0) .nil)) (.int 6))) (.cons (.ret [] (.call 7 (.cons (.var 0) (.cons (.var 1) .nil)))) .nil) .nil) b10_2) env := Eq.trans rfl rfl
theorem u11_0 {F : Fns} {env : PEnv} : exs F b11_0 env = exs F (.cons (.fld (.var 0) "stretches" Cs (.lst .nil)) .nil) env := Eq.trans rfl rfl
theorem u11_1 {F : Fns} {env : PEnv} : exs F b11_1 env = exs F (.cons (.fld (.var 0) "places" Cs (.lst .nil)) b11_0) env := Eq.trans rfl rfl
theorem u11_2 {F : Fns} {env : PEnv} : exs F b11_2 env = exs F (.cons (.fld (.var 0) "at" Cs (.neg (.int 1))) b11_1) env := Eq.trans rfl rfl
theorem u11_3 {F : Fns} {env : PEnv} : exs F b11_3 env = exs F (.cons (.fld (.var 0) "rows" Cs (.lst .nil)) b11_2) env := Eq.trans rfl rfl
theorem u11_4 {F : Fns} {env : PEnv} : exs F b11_4 env = exs F (.cons (.fld (.var 0) "bells" Cs (.lst .nil)) b11_3) env := Eq.trans rfl rfl
theorem u12_0 {F : Fns} {env : PEnv} : exs F b12_0 env = exs F (.cons (.ret [0] (.bl true)) .nil) env := Eq.trans rfl rfl
theorem u12_1 {F : Fns} {env : PEnv} : exs F b12_1 env = exs F (.cons (.app (.att (.var 0) "places" Cs) (.tup (.cons (.var 2) (.cons (.var 3) .nil)))) b12_0) env := Eq.trans rfl rfl
theorem u12_2 {F : Fns} {env : PEnv} : exs F b12_2 env = exs F (.cons (.orO 3 4 (.att (.var 0) "stretches" Cs)) b12_1) env := Eq.trans rfl rfl
theorem u12_3 {F : Fns} {env : PEnv} : exs F b12_3 env = exs F (.cons (.set 3 (.int 0)) b12_2) env := Eq.trans rfl rfl
theorem u12_4 {F : Fns} {env : PEnv} : exs F b12_4 env = exs F (.cons (.ife (.or (.cmp .Is (.var 2) .non) (.cmp .Eq (.blt "len" (.cons (.att (.var 0) "places" Cs) .nil)) (.int 12))) (.cons (.ret [0] (.bl false)) .nil) .nil) b12_3) env := Eq.trans rfl rfl
theorem u12_5 {F : Fns} {env : PEnv} : exs F b12_5 env = exs F (.cons (.set 2 (.call 10 (.cons (.var 1) (.cons (.att (.var 0) "boxes" Cs) .nil)))) b12_4) env := Eq.trans rfl rfl
theorem u12_6 {F : Fns} {env : PEnv} : exs F b12_6 env = exs F (.cons (.ife (.cmp .Eq (.ix (.var 1) (.int 0)) (.str "open")) (.cons (.ife (.or (.cmp .Gt (.blt "len" (.cons (.var 1) .nil)) (.int 1)) (.not (.val (.att (.var 0) "stretches" Cs)))) (.cons (.ret [0] (.bl false)) .nil) .nil) (.cons (.pop (.att (.var 0) "stretches" Cs)) (.cons (.ret [0] (.bl true)) .nil))) .nil) b12_5) env := Eq.trans rfl rfl
theorem u12_7 {F : Fns} {env : PEnv} : exs F b12_7 env = exs F (.cons (.ife (.cmp .Eq (.ix (.var 1) (.int 0)) (.str "shut")) (.cons (.ret [0] (.lmcall (.var 0) "take_shut" T_take_shut (.cons (.var 1) .nil))) .nil) .nil) b12_6) env := Eq.trans rfl rfl
theorem u12_8 {F : Fns} {env : PEnv} : exs F b12_8 env = exs F (.cons (.ife (.cmp .Eq (.att (.var 0) "at" Cs) (.neg (.int 1))) (.cons (.ret [0] (.bl false)) .nil) .nil) b12_7) env := Eq.trans rfl rfl
theorem u12_9 {F : Fns} {env : PEnv} : exs F b12_9 env = exs F (.cons (.ife (.cmp .Eq (.ix (.var 1) (.int 0)) (.str "row")) (.cons (.ret [0] (.lmcall (.var 0) "take_row" T_take_row (.cons (.var 1) .nil))) .nil) .nil) b12_8) env := Eq.trans rfl rfl
theorem u12_10 {F : Fns} {env : PEnv} : exs F b12_10 env = exs F (.cons (.ife (.and (.cmp .Eq (.att (.var 0) "at" Cs) (.neg (.int 1))) (.cmp .Eq (.ix (.var 1) (.int 0)) (.str "bell"))) (.cons (.ret [0] (.lmcall (.var 0) "take_bell" T_take_bell (.cons (.var 1) .nil))) .nil) .nil) b12_9) env := Eq.trans rfl rfl
theorem u13_0 {F : Fns} {env : PEnv} : exs F b13_0 env = exs F (.cons (.ret [0] (.bl true)) .nil) env := Eq.trans rfl rfl
theorem u13_1 {F : Fns} {env : PEnv} : exs F b13_1 env = exs F (.cons (.app (.att (.var 0) "boxes" Cs) (.tup (.cons (.ix (.var 1) (.int 1)) (.cons (.blt "tuple" (.cons (.var 2) .nil)) .nil)))) b13_0) env := Eq.trans rfl rfl
theorem u13_2 {F : Fns} {env : PEnv} : exs F b13_2 env = exs F (.cons (.ife (.or (.not (.val (.call 1 (.cons (.ix (.var 1) (.int 1)) .nil)))) (.or (.cmp .IsNot (.call 3 (.cons (.att (.var 0) "boxes" Cs) (.cons (.ix (.var 1) (.int 1)) .nil))) .non) (.cmp .In .non (.var 2)))) (.cons (.ret [0] (.bl false)) .nil) .nil) b13_1) env := Eq.trans rfl rfl
theorem u13_3 {F : Fns} {env : PEnv} : exs F b13_3 env = exs F (.cons (.set 2 (.comp (.call 2 (.cons (.var 3) .nil)) (.name 3) [("word", 3)] (.val (.slc (.var 1) (.some (.int 2)) .no)) .yes)) b13_2) env := Eq.trans rfl rfl
theorem u14_0 {F : Fns} {env : PEnv} : exs F b14_0 env = exs F (.cons (.ret [0] (.bl true)) .nil) env := Eq.trans rfl rfl
theorem u14_1 {F : Fns} {env : PEnv} : exs F b14_1 env = exs F (.cons (.app (.att (.var 0) "bells" Cs) (.tup (.cons (.ix (.var 1) (.int 1)) (.cons (.call 4 (.cons (.ix (.var 1) (.int 2)) .nil)) .nil)))) b14_0) env := Eq.trans rfl rfl
theorem u14_2 {F : Fns} {env : PEnv} : exs F b14_2 env = exs F (.cons (.ife (.cmp .Is (.call 4 (.cons (.ix (.var 1) (.int 2)) .nil)) .non) (.cons (.ret [0] (.bl false)) .nil) .nil) b14_1) env := Eq.trans rfl rfl
theorem u14_3 {F : Fns} {env : PEnv} : exs F b14_3 env = exs F (.cons (.ife (.or (.not (.val (.call 1 (.cons (.ix (.var 1) (.int 1)) .nil)))) (.cmp .IsNot (.call 3 (.cons (.att (.var 0) "bells" Cs) (.cons (.ix (.var 1) (.int 1)) .nil))) .non)) (.cons (.ret [0] (.bl false)) .nil) .nil) b14_2) env := Eq.trans rfl rfl
theorem u15_0 {F : Fns} {env : PEnv} : exs F b15_0 env = exs F (.cons (.ret [0] (.bl true)) .nil) env := Eq.trans rfl rfl
theorem u15_1 {F : Fns} {env : PEnv} : exs F b15_1 env = exs F (.cons (.fld (.var 0) "places" Cs (.lst .nil)) b15_0) env := Eq.trans rfl rfl
theorem u15_2 {F : Fns} {env : PEnv} : exs F b15_2 env = exs F (.cons (.fld (.var 0) "at" Cs (.bin .Add (.att (.var 0) "at" Cs) (.int 1))) b15_1) env := Eq.trans rfl rfl
theorem u15_3 {F : Fns} {env : PEnv} : exs F b15_3 env = exs F (.cons (.ife (.cmp .GtE (.att (.var 0) "at" Cs) (.int 0)) (.cons (.app (.att (.var 0) "rows" Cs) (.blt "tuple" (.cons (.att (.var 0) "places" Cs) .nil))) .nil) .nil) b15_2) env := Eq.trans rfl rfl
theorem u15_4 {F : Fns} {env : PEnv} : exs F b15_4 env = exs F (.cons (.ife (.cmp .NotEq (.ix (.var 1) (.int 1)) (.var 2)) (.cons (.ret [0] (.bl false)) .nil) .nil) b15_3) env := Eq.trans rfl rfl
theorem u15_5 {F : Fns} {env : PEnv} : exs F b15_5 env = exs F (.cons (.ife (.cmp .Eq (.att (.var 0) "at" Cs) (.neg (.int 1))) (.cons (.set 2 (.str "main")) .nil) (.cons (.set 2 (.ix (.ix (.att (.var 0) "bells" Cs) (.att (.var 0) "at" Cs)) (.int 0))) (.cons (.ife (.or (.not (.val (.att (.var 0) "places" Cs))) (.val (.att (.var 0) "stretches" Cs))) (.cons (.ret [0] (.bl false)) .nil) .nil) .nil))) b15_4) env := Eq.trans rfl rfl
theorem u16_0 {F : Fns} {env : PEnv} : exs F b16_0 env = exs F (.cons (.ret [0] (.cmp .Gt (.var 2) (.int 0))) .nil) env := Eq.trans rfl rfl
theorem u16_1 {F : Fns} {env : PEnv} : exs F b16_1 env = exs F (.cons (.app (.att (.var 0) "stretches" Cs) (.var 2)) b16_0) env := Eq.trans rfl rfl
theorem u16_2 {F : Fns} {env : PEnv} : exs F b16_2 env = exs F (.cons (.set 2 (.bin .BitOr (.var 2) (.bin .LShift (.int 1) (.bin .Add (.var 4) (.int 1))))) .nil) env := Eq.trans rfl rfl
theorem u16_3 {F : Fns} {env : PEnv} : exs F b16_3 env = exs F (.cons (.ife (.cmp .Is (.var 4) .non) (.cons (.ret [0] (.bl false)) .nil) .nil) b16_2) env := Eq.trans rfl rfl
theorem u16_4 {F : Fns} {env : PEnv} : exs F b16_4 env = exs F (.cons (.set 4 (.call 3 (.cons (.att (.var 0) "bells" Cs) (.cons (.var 3) .nil)))) b16_3) env := Eq.trans rfl rfl
theorem u16_5 {F : Fns} {env : PEnv} : exs F b16_5 env = exs F (.cons (.for (.name 3) (.val (.slc (.var 1) (.some (.int 1)) .no)) b16_4) b16_1) env := Eq.trans rfl rfl
theorem u16_6 {F : Fns} {env : PEnv} : exs F b16_6 env = exs F (.cons (.ife (.cmp .Eq (.blt "len" (.cons (.att (.var 0) "stretches" Cs) .nil)) (.int 12)) (.cons (.ret [0] (.bl false)) .nil) .nil) b16_5) env := Eq.trans rfl rfl
theorem u18_0 {F : Fns} {env : PEnv} : exs F b18_0 env = exs F (.cons (.ret [] (.tup (.cons (.blt "tuple" (.cons (.att (.var 0) "boxes" Cs) .nil)) (.cons (.blt "tuple" (.cons (.var 3) .nil)) .nil)))) .nil) env := Eq.trans rfl rfl
theorem u18_1 {F : Fns} {env : PEnv} : exs F b18_1 env = exs F (.cons (.set 3 (.comp (.bin .Add (.ix (.var 1) (.var 4)) (.tup (.cons (.ix (.var 2) (.var 4)) .nil))) (.name 4) [("k", 4)] (.range1 (.blt "len" (.cons (.var 1) .nil))) .yes)) b18_0) env := Eq.trans rfl rfl
theorem u18_2 {F : Fns} {env : PEnv} : exs F b18_2 env = exs F (.cons (.set 2 (.bin .Add (.att (.var 0) "rows" Cs) (.lst (.cons (.blt "tuple" (.cons (.att (.var 0) "places" Cs) .nil)) .nil)))) b18_1) env := Eq.trans rfl rfl
theorem u19_0 {F : Fns} {env : PEnv} : exs F b19_0 env = exs F (.cons (.ret [] (.mcall (.var 1) "made" T_made .nil)) .nil) env := Eq.trans rfl rfl
theorem u19_1 {F : Fns} {env : PEnv} : exs F b19_1 env = exs F (.cons (.ife (.not (.val (.mcall (.var 1) "ended" T_ended .nil))) (.cons .wall .nil) .nil) b19_0) env := Eq.trans rfl rfl
theorem u19_2 {F : Fns} {env : PEnv} : exs F b19_2 env = exs F (.cons (.ife (.not (.val (.lmcall (.var 1) "take" T_take (.cons (.meth "split" (.var 3) (.str " ")) .nil)))) (.cons .wall .nil) .nil) .nil) env := Eq.trans rfl rfl
theorem u19_3 {F : Fns} {env : PEnv} : exs F b19_3 env = exs F (.cons (.for (.tup [2, 3]) (.enum (.var 0)) b19_2) b19_1) env := Eq.trans rfl rfl
theorem u20_0 {F : Fns} {env : PEnv} : exs F b20_0 env = exs F (.cons (.ret [] (.bin .Mod (.bin .Mod (.bin .Add (.bin .Mult (.var 3) (.int 48271)) (.bin .Mult (.bin .Mult (.bin .Add (.var 1) (.int 1)) (.bin .Add (.var 1) (.int 5))) (.int 69621))) (.int 2147483629)) (.var 2))) .nil) env := Eq.trans rfl rfl
theorem u20_1 {F : Fns} {env : PEnv} : exs F b20_1 env = exs F (.cons (.ife (.cmp .Gt (.blt "len" (.cons (.var 0) .nil)) (.int 0)) (.cons (.set 3 (.bin .Mod (.ix (.var 0) (.bin .Mod (.var 1) (.blt "len" (.cons (.var 0) .nil)))) (.int 2147483647))) .nil) .nil) b20_0) env := Eq.trans rfl rfl
theorem u21_0 {F : Fns} {env : PEnv} : exs F b21_0 env = exs F (.cons (.ret [] (.and (.isi (.var 0) "str") (.cmp .Eq (.var 0) (.var 1)))) .nil) env := Eq.trans rfl rfl
theorem u21_1 {F : Fns} {env : PEnv} : exs F b21_1 env = exs F (.cons (.ife (.cmp .Is (.var 1) .non) (.cons (.ret [] (.cmp .Is (.var 0) .non)) .nil) .nil) b21_0) env := Eq.trans rfl rfl
theorem u21_2 {F : Fns} {env : PEnv} : exs F b21_2 env = exs F (.cons (.ife (.val (.isi (.var 1) "int")) (.cons (.ret [] (.and (.isi (.var 0) "int") (.cmp .Eq (.var 0) (.var 1)))) .nil) .nil) b21_1) env := Eq.trans rfl rfl
theorem u21_3 {F : Fns} {env : PEnv} : exs F b21_3 env = exs F (.cons (.ife (.or (.val (.isi (.var 1) "bool")) (.val (.isi (.var 0) "bool"))) (.cons (.ret [] (.and (.isi (.var 1) "bool") (.and (.isi (.var 0) "bool") (.cmp .Eq (.var 0) (.var 1))))) .nil) .nil) b21_2) env := Eq.trans rfl rfl
theorem u22_0 {F : Fns} {env : PEnv} : exs F b22_0 env = exs F (.cons (.ret [] (.var 6)) .nil) env := Eq.trans rfl rfl
theorem u22_1 {F : Fns} {env : PEnv} : exs F b22_1 env = exs F (.cons (.app (.var 6) (.meth "join" (.str "") (.var 10))) .nil) env := Eq.trans rfl rfl
theorem u22_2 {F : Fns} {env : PEnv} : exs F b22_2 env = exs F (.cons (.stx (.var 10) (.var 8) (.ix (.var 3) (.bin .Mod (.bin .Add (.call 20 (.cons (.var 0) (.cons (.bin .Add (.var 1) (.int 11)) (.cons (.int 26) .nil)))) (.bin .Mult (.int 3) (.var 9))) (.int 26)))) b22_1) env := Eq.trans rfl rfl
theorem u22_3 {F : Fns} {env : PEnv} : exs F b22_3 env = exs F (.cons (.set 10 (.slc (.var 4) .no (.some (.var 7)))) b22_2) env := Eq.trans rfl rfl
theorem u22_4 {F : Fns} {env : PEnv} : exs F b22_4 env = exs F (.cons (.ife (.cmp .Eq (.var 5) (.int 3)) (.cons (.set 6 (.lst .nil)) (.cons (.set 7 (.bin .Add (.int 1) (.call 20 (.cons (.var 0) (.cons (.bin .Add (.var 1) (.int 9)) (.cons (.int 8) .nil)))))) (.cons (.set 8 (.call 20 (.cons (.var 0) (.cons (.bin .Add (.var 1) (.int 10)) (.cons (.var 7) .nil))))) (.cons (.for (.name 9) (.range1 (.var 2)) b22_3) .nil)))) .nil) b22_0) env := Eq.trans rfl rfl
theorem u22_5 {F : Fns} {env : PEnv} : exs F b22_5 env = exs F (.cons (.ife (.cmp .Eq (.var 5) (.int 2)) (.cons (.set 6 (.comp (.meth "join" (.str "") (.slc (.var 4) (.some (.bin .Sub (.int 7) (.var 9))) .no)) (.name 9) [("_law_k", 9)] (.range1 (.var 2)) .yes)) .nil) .nil) b22_4) env := Eq.trans rfl rfl
theorem u22_6 {F : Fns} {env : PEnv} : exs F b22_6 env = exs F (.cons (.ife (.cmp .Eq (.var 5) (.int 1)) (.cons (.set 6 (.comp (.meth "join" (.str "") (.slc (.var 4) .no (.some (.bin .Add (.var 9) (.int 1))))) (.name 9) [("_law_k", 9)] (.range1 (.var 2)) .yes)) .nil) .nil) b22_5) env := Eq.trans rfl rfl
theorem u22_7 {F : Fns} {env : PEnv} : exs F b22_7 env = exs F (.cons (.set 6 (.slc (.lst (.cons (.str "row") (.cons (.str "open") (.cons (.str "here") (.cons (.str "main") (.cons (.str "is") (.cons (.str "box") (.cons (.str "plus") (.cons (.str "by") .nil))))))))) .no (.some (.var 2)))) b22_6) env := Eq.trans rfl rfl
theorem u22_8 {F : Fns} {env : PEnv} : exs F b22_8 env = exs F (.cons (.set 5 (.call 20 (.cons (.var 0) (.cons (.bin .Add (.var 1) (.int 8)) (.cons (.int 4) .nil))))) b22_7) env := Eq.trans rfl rfl
theorem u22_9 {F : Fns} {env : PEnv} : exs F b22_9 env = exs F (.cons (.set 4 (.comp (.ix (.var 3) (.call 20 (.cons (.var 0) (.cons (.bin .Add (.var 1) (.var 9)) (.cons (.int 26) .nil))))) (.name 9) [("_law_k", 9)] (.range1 (.int 8)) .yes)) b22_8) env := Eq.trans rfl rfl
theorem u23_0 {F : Fns} {env : PEnv} : exs F b23_0 env = exs F (.cons (.ret [] (.tup (.cons (.bin .Add (.str "shut ") (.meth "join" (.str " ") (.comp (.ix (.var 2) (.var 5)) (.name 5) [("_law_k", 5)] (.val (.var 3)) .yes))) (.cons (.var 4) .nil)))) .nil) env := Eq.trans rfl rfl
theorem u23_1 {F : Fns} {env : PEnv} : exs F b23_1 env = exs F (.cons (.set 4 (.bin .BitOr (.var 4) (.bin .LShift (.int 2) (.var 5)))) .nil) env := Eq.trans rfl rfl
theorem u23_2 {F : Fns} {env : PEnv} : exs F b23_2 env = exs F (.cons (.for (.name 5) (.val (.var 3)) b23_1) b23_0) env := Eq.trans rfl rfl
theorem u23_3 {F : Fns} {env : PEnv} : exs F b23_3 env = exs F (.cons (.set 4 (.int 0)) b23_2) env := Eq.trans rfl rfl
theorem u24_0 {F : Fns} {env : PEnv} : exs F b24_0 env = exs F (.cons (.ret [] (.tup (.cons (.var 4) (.cons (.blt "tuple" (.cons (.var 5) .nil)) .nil)))) .nil) env := Eq.trans rfl rfl
theorem u24_1 {F : Fns} {env : PEnv} : exs F b24_1 env = exs F (.cons (.ife (.cmp .Lt (.var 8) (.int 2)) (.cons (.set 4 (.bin .Add (.var 4) (.comp (.bin .Add (.str "shut ") (.ix (.var 2) (.bin .Mod (.var 8) (.blt "len" (.cons (.var 2) .nil))))) (.name 7) [("_law_k", 7)] (.range1 (.bin .Add (.var 8) (.int 1))) .yes))) (.cons (.set 4 (.bin .Add (.var 4) (.comp (.str "open") (.name 7) [("_law_k", 7)] (.range1 (.bin .Add (.var 8) (.int 1))) .yes))) .nil)) .nil) b24_0) env := Eq.trans rfl rfl
theorem u24_2 {F : Fns} {env : PEnv} : exs F b24_2 env = exs F (.cons (.set 8 (.call 20 (.cons (.var 0) (.cons (.bin .Add (.var 1) (.int 127)) (.cons (.int 6) .nil))))) b24_1) env := Eq.trans rfl rfl
theorem u24_3 {F : Fns} {env : PEnv} : exs F b24_3 env = exs F (.cons (.app (.var 5) (.tup (.cons (.tup (.cons (.str "still") (.cons (.int 9) .nil))) (.cons (.int 0) .nil)))) b24_2) env := Eq.trans rfl rfl
theorem u24_4 {F : Fns} {env : PEnv} : exs F b24_4 env = exs F (.cons (.set 4 (.bin .Add (.bin .Add (.var 4) (.comp (.str "open") (.name 14) [("_law_one", 14)] (.val (.var 6)) .yes)) (.lst (.cons (.str "still 9") .nil)))) b24_3) env := Eq.trans rfl rfl
theorem u24_5 {F : Fns} {env : PEnv} : exs F b24_5 env = exs F (.cons (.ife (.and (.cmp .In (.var 10) (.tup (.cons (.int 3) (.cons (.int 4) .nil)))) (.cmp .Lt (.blt "len" (.cons (.var 5) .nil)) (.int 11))) (.cons (.set 12 (.bin .Add (.int 1) (.call 20 (.cons (.var 0) (.cons (.bin .Add (.var 9) (.int 1)) (.cons (.int 9) .nil)))))) (.cons (.app (.var 4) (.bin .Add (.str "still ") (.blt "str" (.cons (.var 12) .nil)))) (.cons (.set 13 (.int 0)) (.cons (.orO 13 14 (.var 6)) (.cons (.app (.var 5) (.tup (.cons (.tup (.cons (.str "still") (.cons (.var 12) .nil))) (.cons (.var 13) .nil)))) .nil))))) .nil) .nil) env := Eq.trans rfl rfl
theorem u24_6 {F : Fns} {env : PEnv} : exs F b24_6 env = exs F (.cons (.ife (.and (.cmp .Eq (.var 10) (.int 5)) (.cmp .Gt (.blt "len" (.cons (.var 6) .nil)) (.int 0))) (.cons (.pop (.var 6)) (.cons (.app (.var 4) (.str "open")) .nil)) .nil) b24_5) env := Eq.trans rfl rfl
theorem u24_7 {F : Fns} {env : PEnv} : exs F b24_7 env = exs F (.cons (.ife (.and (.cmp .Lt (.var 10) (.bin .Add (.int 1) (.var 3))) (.cmp .Lt (.blt "len" (.cons (.var 6) .nil)) (.int 12))) (.cons (.set 11 (.call 23 (.cons (.var 0) (.cons (.bin .Add (.var 9) (.int 1)) (.cons (.var 2) .nil))))) (.cons (.app (.var 4) (.ix (.var 11) (.int 0))) (.cons (.app (.var 6) (.ix (.var 11) (.int 1))) .nil))) .nil) b24_6) env := Eq.trans rfl rfl
theorem u24_8 {F : Fns} {env : PEnv} : exs F b24_8 env = exs F (.cons (.set 10 (.call 20 (.cons (.var 0) (.cons (.var 9) (.cons (.int 6) .nil))))) b24_7) env := Eq.trans rfl rfl
theorem u24_9 {F : Fns} {env : PEnv} : exs F b24_9 env = exs F (.cons (.set 9 (.bin .Add (.bin .Add (.var 1) (.int 1)) (.bin .Mult (.int 6) (.var 7)))) b24_8) env := Eq.trans rfl rfl
theorem u24_10 {F : Fns} {env : PEnv} : exs F b24_10 env = exs F (.cons (.for (.name 7) (.range1 (.call 20 (.cons (.var 0) (.cons (.var 1) (.cons (.int 21) .nil))))) b24_9) b24_4) env := Eq.trans rfl rfl
theorem u24_11 {F : Fns} {env : PEnv} : exs F b24_11 env = exs F (.cons (.set 6 (.lst .nil)) b24_10) env := Eq.trans rfl rfl
theorem u24_12 {F : Fns} {env : PEnv} : exs F b24_12 env = exs F (.cons (.set 5 (.lst .nil)) b24_11) env := Eq.trans rfl rfl
theorem u25_0 {F : Fns} {env : PEnv} : exs F b25_0 env = exs F (.cons (.ret [] (.call 21 (.cons (.call 19 (.cons (.blt "list" (.cons (.var 4) .nil)) .nil)) (.cons (.tup (.cons (.tup .nil) (.cons (.blt "tuple" (.cons (.var 6) .nil)) .nil))) .nil)))) .nil) env := Eq.trans rfl rfl
theorem u25_1 {F : Fns} {env : PEnv} : exs F b25_1 env = exs F (.cons (.app (.var 6) (.tup (.cons (.var 8) (.cons (.var 9) (.cons (.ix (.var 7) (.int 1)) .nil))))) .nil) env := Eq.trans rfl rfl
theorem u25_2 {F : Fns} {env : PEnv} : exs F b25_2 env = exs F (.cons (.set 4 (.bin .Add (.bin .Add (.var 4) (.lst (.cons (.bin .Add (.str "row ") (.var 8)) .nil))) (.ix (.var 7) (.int 0)))) b25_1) env := Eq.trans rfl rfl
theorem u25_3 {F : Fns} {env : PEnv} : exs F b25_3 env = exs F (.cons (.ife (.cmp .Gt (.var 5) (.int 0)) (.cons (.set 9 (.bin .Add (.int 1) (.call 20 (.cons (.var 0) (.cons (.bin .Add (.int 13) (.var 5)) (.cons (.int 9) .nil)))))) .nil) .nil) b25_2) env := Eq.trans rfl rfl
theorem u25_4 {F : Fns} {env : PEnv} : exs F b25_4 env = exs F (.cons (.set 9 (.int 0)) b25_3) env := Eq.trans rfl rfl
theorem u25_5 {F : Fns} {env : PEnv} : exs F b25_5 env = exs F (.cons (.set 8 (.ix (.bin .Add (.lst (.cons (.str "main") .nil)) (.var 2)) (.var 5))) b25_4) env := Eq.trans rfl rfl
theorem u25_6 {F : Fns} {env : PEnv} : exs F b25_6 env = exs F (.cons (.set 7 (.call 24 (.cons (.var 0) (.cons (.bin .Add (.int 30) (.bin .Mult (.int 130) (.var 5))) (.cons (.var 2) (.cons (.var 3) .nil)))))) b25_5) env := Eq.trans rfl rfl
theorem u25_7 {F : Fns} {env : PEnv} : exs F b25_7 env = exs F (.cons (.for (.name 5) (.range1 (.bin .Add (.var 1) (.int 1))) b25_6) b25_0) env := Eq.trans rfl rfl
theorem u25_8 {F : Fns} {env : PEnv} : exs F b25_8 env = exs F (.cons (.set 6 (.lst .nil)) b25_7) env := Eq.trans rfl rfl
theorem u25_9 {F : Fns} {env : PEnv} : exs F b25_9 env = exs F (.cons (.app (.var 4) (.bin .Add (.bin .Add (.bin .Add (.str "bell ") (.ix (.var 2) (.var 5))) (.str " ")) (.blt "str" (.cons (.bin .Add (.int 1) (.call 20 (.cons (.var 0) (.cons (.bin .Add (.int 14) (.var 5)) (.cons (.int 9) .nil))))) .nil)))) .nil) env := Eq.trans rfl rfl
theorem u25_10 {F : Fns} {env : PEnv} : exs F b25_10 env = exs F (.cons (.for (.name 5) (.range1 (.var 1)) b25_9) b25_8) env := Eq.trans rfl rfl
theorem u25_11 {F : Fns} {env : PEnv} : exs F b25_11 env = exs F (.cons (.set 4 (.lst .nil)) b25_10) env := Eq.trans rfl rfl
theorem u25_12 {F : Fns} {env : PEnv} : exs F b25_12 env = exs F (.cons (.set 3 (.bin .Mult (.int 2) (.blt "int" (.cons (.cmp .Eq (.call 20 (.cons (.var 0) (.cons (.int 13) (.cons (.int 3) .nil)))) (.int 0)) .nil)))) b25_11) env := Eq.trans rfl rfl
theorem u25_13 {F : Fns} {env : PEnv} : exs F b25_13 env = exs F (.cons (.ife (.cmp .In (.str "main") (.var 2)) (.cons (.set 2 (.comp (.slc (.str "xxxxxx") .no (.some (.bin .Add (.var 5) (.int 1)))) (.name 5) [("_law_k", 5)] (.range1 (.var 1)) .yes)) .nil) .nil) b25_12) env := Eq.trans rfl rfl
theorem u25_14 {F : Fns} {env : PEnv} : exs F b25_14 env = exs F (.cons (.set 2 (.call 22 (.cons (.var 0) (.cons (.int 1) (.cons (.var 1) .nil))))) b25_13) env := Eq.trans rfl rfl
theorem tb_made_Reader : tbF T_made "Reader" = some 18 := by decide
theorem tb_ended_Reader : tbF T_ended "Reader" = some 17 := by decide
theorem tb_take_Reader : tbF T_take "Reader" = some 12 := by decide
theorem tb_take_box_Reader : tbF T_take_box "Reader" = some 13 := by decide
theorem tb_take_bell_Reader : tbF T_take_bell "Reader" = some 14 := by decide
theorem tb_take_row_Reader : tbF T_take_row "Reader" = some 15 := by decide
theorem tb_take_shut_Reader : tbF T_take_shut "Reader" = some 16 := by decide
theorem cs_Reader : Cs.contains "Reader" = true := by decide
end Pr
namespace Pr
open PySem PySem.Spec PyProof.Rows L2 Me
local macro_rules | `(command| include $n $xs*) => do
  let no := (xs.map fun x => x.getId.toString).filter fun z => z.startsWith "no_"
  let ys := xs.filter fun x => !(x.getId.toString.startsWith "no_")
  let ids := fun (t : String) => (((t.splitOn " ").filter fun z => !(no.contains ("no_" ++ z))).toArray.map fun z => Lean.mkIdent z.toName : Array (Lean.TSyntax `ident))
  let a := ys ++ ids "Me.bd_n Me.bd_s Me.bd2_n Me.bd2_s Me.sq_n Me.sq_x Me.sq_r Me.sq_b Me.fq_n Me.fq_x Me.fq_r Me.sqX_n Me.sqX_x Me.sqX_r Me.sqX_b Me.orX_n Me.orX_s Me.as_bd_bd Me.as_bd_bd2 Me.as_bd_gu Me.as_bd_if Me.as_bd_co Me.as_bd2_bd Me.as_bd2_bd2 Me.as_bd2_gu Me.as_bd2_if Me.as_bd2_co Me.as_sq_bd Me.as_sq_bd2 Me.as_sq_gu Me.as_sq_if Me.as_sq_co Me.as_fq_bd Me.as_fq_bd2 Me.as_fq_gu Me.as_fq_if Me.as_fq_co Me.as_sx_bd Me.as_sx_bd2 Me.as_sx_gu Me.as_sx_if Me.as_sx_co Me.as_bd_gx Me.as_bd_gf Me.as_bd2_gx Me.as_bd2_gf Me.as_sq_gx Me.as_sq_gf Me.as_fq_gx Me.as_fq_gf Me.as_sx_gx Me.as_sx_gf Me.as_sq_sq Me.as_fq_sq Me.as_sx_sq Me.finK_ret Me.finK_next Me.iteN Me.fst_mk Me.snd_mk Me.gd0 Me.st0 Me.gd1 Me.st1 Me.gd2 Me.st2 Me.gd3 Me.st3 Me.gd4 Me.st4 Me.gd5 Me.st5 Me.gd6 Me.st6 Me.gd7 Me.st7 Me.gd8 Me.st8 Me.gd9 Me.st9 Me.gd10 Me.st10 Me.gd11 Me.st11 Me.gd12 Me.st12 Me.gd13 Me.st13 Me.gd14 Me.st14 Me.gd15 Me.st15 Me.gd16 Me.st16 Me.gd17 Me.st17 Me.gd18 Me.st18 Me.gd19 Me.st19 Me.gd20 Me.st20 Me.gd21 Me.st21 Me.gd22 Me.st22 Me.gd23 Me.st23 Me.gd24 Me.st24 Me.gd25 Me.st25 Me.gd26 Me.st26 Me.gd27 Me.st27 Me.gd28 Me.st28 Me.gd29 Me.st29 Me.ge0 Me.sa0 Me.ge1 Me.sa1 Me.ge2 Me.sa2 Me.ge3 Me.sa3 Me.ge4 Me.sa4 Me.ge5 Me.sa5 Me.ge6 Me.sa6 Me.ge7 Me.sa7 Me.ge8 Me.sa8 Me.ge9 Me.sa9 Me.slb_t' Me.slb_b0' Me.slb_bn Me.sub_s0 Me.sub_o0 Me.sub_n0 Me.sub_d0 Me.sub_i0 Me.sub_nst Me.sub_ins Me.put_0 Me.put_nst Me.put_ins Me.putL0 Me.putL1 Me.putL2 Me.putL3 Me.putL4 Me.putL5 Me.putL6 Me.putL7 Me.putL8 Me.putL9 Me.setP_q Me.setQ_s Me.gd_t Me.gd_b0 Me.gd_bn Me.stB_q Me.stO_sh Me.stO_own Me.stO_dct Me.stBs_nil Me.stBs_cons Me.pv_sh' Me.pv_own' Me.pv_nst' Me.pv_dct' Me.pv_ins' Me.pvs_nil' Me.pvs_cons' Me.pvb_sh Me.pvb_t Me.pvb_b Me.pvbs_nil Me.pvbs_cons Me.fix_t Me.fix_b Me.fixs_nil Me.fixs_cons Me.fixO_t Me.fixO_b Me.fixR_t Me.fixR_b0 Me.fixR_bn Me.sflat_sh Me.sflat_tpl Me.sflat_own Me.sflat_ins Me.sflat_nst Me.sflats_nil Me.sflats_cons Me.flat_non Me.flat_bl Me.flat_int Me.flat_str Me.flat_tup Me.flat_lst Me.flat_dct Me.flat_obj Me.flat_exc Me.flats_nil Me.flats_cons Me.flats_ints Me.flats_app Me.callR_nil Me.callR_t Me.callR_b Me.y_non Me.y_bl Me.y_int Me.y_str Me.y_glob Me.y_var Me.varV_own Me.varV_nst Me.varV_dct Me.varV_ins Me.varV_tpl Me.varV_sh Me.y_bin Me.y_cmp Me.y_chain Me.O_bl Me.O_int Me.O_lst Me.O_own Me.y_and Me.y_or Me.y_not Me.y_neg Me.y_ife Me.y_ix Me.ixS_sh Me.ixS_own Me.ixS_dct Me.ixS_nst Me.ixF_sh Me.ixF_own Me.ixF_nst Me.ixF_dct Me.ixF_ins Me.y_slc Me.y_tup Me.y_lst Me.y_call Me.y_blt Me.bltG_len Me.bltG_sum Me.bltG_all Me.bltG_any Me.bltG_abs Me.bltG_max Me.bltG_min Me.bltG_int Me.bltG_str Me.bltG_list Me.bltG_tuple Me.bltG_sorted Me.y_isi Me.y_meth Me.y_comp Me.y_att Me.attB_t Me.attB_ti Me.attB_b Me.attF_sh Me.attF_ins Me.clsB_F Me.nnK_n Me.clsF_sh Me.clsF_ins Me.y_mcall Me.newR_ok Me.y_new Me.y_lmcall Me.lmQ_ok Me.lmR_1 Me.lmQf_ok Me.lmR_1o Me.okKey_i Me.okKey_s Me.okKey_t Me.okKey_t2 Me.y_wall Me.y_turn Me.wipe_nil' Me.wipe_cons' Me.back_nil' Me.back_cons' Me.shN_O Me.shNO_n Me.shNO_s Me.all_nil' Me.all_cons' Me.y_O_no Me.y_O_some Me.y_C_yes Me.y_C_on Me.y_nil Me.y_cons Me.t_val' Me.t_cmp' Me.t_chain' Me.t_and' Me.t_or' Me.t_not' Me.i_val' Me.i_range1' Me.i_enum' Me.i_zip' Me.bindT_name Me.bindT_tup Me.setAll_nil Me.setAll_cons Me.forB_eq Me.z_nil Me.z_cons Me.z_pass Me.z_wall Me.z_brk Me.z_retN Me.z_set Me.z_expr Me.z_ret Me.z_ife Me.z_for Me.z_raise Me.z_orO Me.orB_b Me.orK_o Me.x_nil Me.x_raise Me.x_ife Me.x_pass Me.x_set Me.x_expr Me.forBX_eq Me.x_for Me.x_app Me.z_app Me.z_stx Me.z_pop Me.z_fld Me.sx0 Me.sx1 Me.sx2 Me.sx3 Me.sx4 Me.ixpPV3_0 Me.ixpSl3_0 Me.ixpPV3_1 Me.ixpSl3_1 Me.ixpPV3_2 Me.ixpSl3_2 Me.ixpPV4_0 Me.ixpSl4_0 Me.ixpPV4_1 Me.ixpSl4_1 Me.ixpPV4_2 Me.ixpSl4_2 Me.ixpPV4_3 Me.ixpSl4_3 Me.calms_nil Me.calms_cons Me.calm_var Me.calm_int Me.calm_str Me.calm_bl Me.calm_non Me.calm_bin Me.calm_cmp Me.calm_neg Me.calm_ix Me.calm_tup Me.calm_lst Me.calm_call Me.calm_blt Me.isOwn_own Me.isOwn_sh Me.appB_e Me.popB_e Me.stxB_e Me.stxS_own Me.stxS_dct Me.fldB_e Me.fldS_ins Me.fldN_s Me.fldN_n Me.p_Add Me.p_Sub Me.p_BitAnd Me.p_BitOr Me.p_BitXor Me.p_Mult Me.p_FloorDiv Me.p_Pow Me.p_LShift Me.p_RShift Me.p_Mod Me.p_Mult_str Me.p_Add_str Me.p_Add_lst Me.p_Add_tup Me.q_Lt Me.q_LtE Me.q_Gt Me.q_GtE Me.q_Eq Me.q_NotEq Me.q_In Me.q_NotIn Me.e_int Me.e_str Me.e_bl Me.e_int_str Me.e_int_non Me.e_non_int Me.e_str_int Me.e_str_bl Me.e_str_non Me.e_non_str Me.e_bl_str Me.e_bl_non Me.e_non_bl Me.e_non_non Me.q_Is_int Me.q_IsNot_int Me.q_Is_str Me.q_IsNot_str Me.q_Is_bl Me.q_IsNot_bl Me.q_Is_tup Me.q_IsNot_tup Me.q_Is_lst Me.q_IsNot_lst Me.q_Is_non Me.q_IsNot_non Me.q_Is_exc Me.q_IsNot_exc Me.tr_bl' Me.tr_int' Me.tr_lst' Me.tr_tup' Me.tr_non' Me.x_lst' Me.x_tup' Me.x_dct' Me.ai_0 Me.ai_1 Me.ai_2 Me.ai_3 Me.ai_4 Me.ai_5 Me.ai_6 Me.ai_7 Me.ai_8 Me.ai_9 Me.sc_lst Me.sc_tup Me.sc_str Me.u_len_lst Me.u_len_tup Me.u_abs Me.u_max Me.u_min Me.u_int_int Me.u_int_bl Me.u_list_lst Me.u_list_tup Me.u_tuple_lst Me.u_tuple_tup Me.u_len_str Me.u_int_str Me.u_str_int Me.u_sorted Me.u_sum Me.u_all Me.u_any Me.u_maxL Me.u_minL Me.u_len_dct Me.u_len_dct1 Me.asInts_map Me.asBls_map Me.asStrs_map Me.asi_nil Me.asi_cons Me.asi_app Me.asb_nil Me.asb_cons Me.asb_app Me.ass_nil Me.ass_cons Me.ass_app Me.is_non_tuple' Me.is_non_list' Me.is_non_bool' Me.is_non_int' Me.is_non_str' Me.is_bl_tuple' Me.is_bl_list' Me.is_bl_bool' Me.is_bl_int' Me.is_bl_str' Me.is_int_tuple' Me.is_int_list' Me.is_int_bool' Me.is_int_int' Me.is_int_str' Me.is_str_tuple' Me.is_str_list' Me.is_str_bool' Me.is_str_int' Me.is_str_str' Me.is_lst_tuple' Me.is_lst_list' Me.is_lst_bool' Me.is_lst_int' Me.is_lst_str' Me.is_tup_tuple' Me.is_tup_list' Me.is_tup_bool' Me.is_tup_int' Me.is_tup_str' Me.is_dct_dict Me.it_lst' Me.it_tup' Me.it_str' Me.z_lst' Me.z_tup' Me.m_join Me.m_find Me.m_split Pr.pos0_m_made Pr.pos0_m_ended Pr.pos0_m_take Pr.pos0_m_take_box Pr.pos0_m_take_bell Pr.pos0_m_take_row Pr.pos0_m_take_shut Pr.pos0_boxes Pr.pos0_bells Pr.pos0_rows Pr.pos0_at Pr.pos0_places Pr.pos0_stretches Pr.posn0_0_boxes Pr.posn0_0_bells Pr.posn0_0_rows Pr.posn0_0_at Pr.posn0_0_places Pr.posn0_0_stretches Pr.posn0_1_bells Pr.posn0_1_rows Pr.posn0_1_at Pr.posn0_1_places Pr.posn0_1_stretches Pr.posn0_2_rows Pr.posn0_2_at Pr.posn0_2_places Pr.posn0_2_stretches Pr.posn0_3_at Pr.posn0_3_places Pr.posn0_3_stretches Pr.posn0_4_places Pr.posn0_4_stretches Pr.posn0_5_stretches Pr.tb_made_Reader Pr.tb_ended_Reader Pr.tb_take_Reader Pr.tb_take_box_Reader Pr.tb_take_bell_Reader Pr.tb_take_row_Reader Pr.tb_take_shut_Reader Pr.cs_Reader Pr.u2_0 Pr.u2_1 Pr.u2_2 Pr.u2_3 Pr.u2_4 Pr.u2_5 Pr.u2_6 Pr.u3_0 Pr.u3_1 Pr.u4_0 Pr.u6_0 Pr.u6_1 Pr.u6_2 Pr.u7_0 Pr.u7_1 Pr.u7_2 Pr.u7_3 Pr.u7_4 Pr.u8_0 Pr.u8_1 Pr.u8_2 Pr.u8_3 Pr.u8_4 Pr.u8_5 Pr.u9_0 Pr.u9_1 Pr.u9_2 Pr.u9_3 Pr.u9_4 Pr.u9_5 Pr.u9_6 Pr.u9_7 Pr.u10_0 Pr.u10_1 Pr.u10_2 Pr.u10_3 Pr.u11_0 Pr.u11_1 Pr.u11_2 Pr.u11_3 Pr.u11_4 Pr.u12_0 Pr.u12_1 Pr.u12_2 Pr.u12_3 Pr.u12_4 Pr.u12_5 Pr.u12_6 Pr.u12_7 Pr.u12_8 Pr.u12_9 Pr.u12_10 Pr.u13_0 Pr.u13_1 Pr.u13_2 Pr.u13_3 Pr.u14_0 Pr.u14_1 Pr.u14_2 Pr.u14_3 Pr.u15_0 Pr.u15_1 Pr.u15_2 Pr.u15_3 Pr.u15_4 Pr.u15_5 Pr.u16_0 Pr.u16_1 Pr.u16_2 Pr.u16_3 Pr.u16_4 Pr.u16_5 Pr.u16_6 Pr.u18_0 Pr.u18_1 Pr.u18_2 Pr.u19_0 Pr.u19_1 Pr.u19_2 Pr.u19_3 Pr.u20_0 Pr.u20_1 Pr.u21_0 Pr.u21_1 Pr.u21_2 Pr.u21_3 Pr.u22_0 Pr.u22_1 Pr.u22_2 Pr.u22_3 Pr.u22_4 Pr.u22_5 Pr.u22_6 Pr.u22_7 Pr.u22_8 Pr.u22_9 Pr.u23_0 Pr.u23_1 Pr.u23_2 Pr.u23_3 Pr.u24_0 Pr.u24_1 Pr.u24_2 Pr.u24_3 Pr.u24_4 Pr.u24_5 Pr.u24_6 Pr.u24_7 Pr.u24_8 Pr.u24_9 Pr.u24_10 Pr.u24_11 Pr.u24_12 Pr.u25_0 Pr.u25_1 Pr.u25_2 Pr.u25_3 Pr.u25_4 Pr.u25_5 Pr.u25_6 Pr.u25_7 Pr.u25_8 Pr.u25_9 Pr.u25_10 Pr.u25_11 Pr.u25_12 Pr.u25_13 Pr.u25_14"
  let b := ys ++ ids "Me.as_fn_bd Me.as_fn_bd2 Me.as_fn_gu Me.as_fn_if Me.as_fn_co Me.as_fn_gx Me.as_fn_gf Me.as_fn_sq Me.gu_t Me.gu_f Me.gu_n Me.gu_and Me.gx_t Me.gx_f Me.gx_and Me.co_n Me.ixl3_0 Me.ixl3_1 Me.ixl3_2 Me.ixl4_0 Me.ixl4_1 Me.ixl4_2 Me.ixl4_3 Me.ofS_inj Me.de_t Me.de_f Me.nb_t Me.nb_f Me.an_t Me.or_t Me.tt_t Me.ff_f Me.tt_f Me.ff_t Me.bn_t Me.bn_f Me.ba_tt Me.ba_ff Me.bo_tr Me.ba_tr Me.bo_fr Me.bo_tt Me.bo_ff Me.dT Me.ne_d Me.dF true_and and_true false_and and_false true_or or_true false_or or_false not_true_eq_false not_false_eq_true if_true if_false List.length_map List.length_nil List.length_cons List.length_append List.length_range List.length_reverse List.length_set Int.toNat_natCast List.map_nil List.map_cons List.nil_append List.cons_append Int.zero_add Int.add_zero Int.one_mul Int.zero_mul Nat.zero_add Me.eqself Me.nc0 Me.nc1 Me.nc2 Me.nc3 Me.nc4 Me.nc5 Me.nc6 Me.nc7 Me.nc8 Me.nc9 Me.nc10 Me.nc11 Me.nc12 Me.nc13 Me.nc14 Me.nc15 Me.nc16"
  `(register_sym_simp $n where
  pre := rewrite [$a,*] with self <|> control
  post := ground >> rewrite [$b,*] with self
  maxSteps := 4000000)
local macro_rules | `(tactic| walk_at "om") => `(tactic| first | omega | assumption | (simp only [cI1, List.length_cons, List.length_nil, List.length_append, List.length_map, List.length_range] <;> simp only [cI2] <;> omega) | (simp only [cI1]; simp only [cI2]; omega) | (simp only [cI1] at *; simp only [cI2] at *; omega))
local macro_rules | `(tactic| walk_at "go") => `(tactic| repeat (first | (with_reducible refine at_gf ?_; intro h_; (try (simp only [cI1] at h_; simp only [cI2] at h_))) | (with_reducible apply at_gx; · walk_at "om") | (with_reducible apply at_gu; · walk_at "om")))
local macro_rules | `(tactic| walk_at "ifs") => `(tactic| (refine at_rfl ?_; (repeat' split) <;> first | rfl | (exfalso; walk_at "om")))
local macro_rules | `(tactic| walk_at "gu") => `(tactic| repeat rw [gu_ok (by walk_at "om")])
/-! the drawn number -/
noncomputable def cell (ns : List Int) (k : Int) : Int := if 0 < ns.length then ((ns.getD (k.fmod ns.length).toNat 0)).fmod 2147483647 else 0
noncomputable def draw (ns : List Int) (k m : Int) : Int := ((cell ns k * 48271 + (k + 1) * (k + 5) * 69621).fmod 2147483629).fmod m
theorem draw_lo (ns : List Int) (k m : Int) (hm : 0 < m) : 0 ≤ draw ns k m := Int.fmod_nonneg_of_pos _ hm
theorem draw_hi (ns : List Int) (k m : Int) (hm : 0 < m) : draw ns k m < m := Int.fmod_lt_of_pos _ hm
theorem draw_in (ns : List Int) (k m : Int) (hm : 0 < m) : 0 ≤ draw ns k m ∧ draw ns k m < m := ⟨draw_lo ns k m hm, draw_hi ns k m hm⟩
theorem draw_or (ns : List Int) (k m : Int) : (0 ≤ draw ns k m ∧ draw ns k m < m) ∨ m ≤ 0 := (Int.lt_or_le 0 m).imp (draw_in ns k m) id
include drw at_int'
theorem draw_k {ns : List Int} {k m : Int} {n : Nat} : fv (fns P (lu n)) 20 [.lst (ns.map PV.int), .int k, .int m] = gx (0 ≤ k ∧ k < 1000000 ∧ 0 < m) (fun _ => fv (fns P (lu n)) 20 [.lst (ns.map PV.int), .int k, .int m]) wt (gf ((0 ≤ draw ns k m ∧ draw ns k m < m) ∨ m ≤ 0) (draw_or ns k m) (some (.sh (.int (draw ns k m))))) := by
  refine gx_og fun h => ?_
  rw [r20, b20]
  refine at_eq ?_
  have u0 : 0 < (ns.length : Int) → 0 ≤ k.fmod ns.length := fun q => Int.fmod_nonneg_of_pos k q
  have u1 : 0 < (ns.length : Int) → k.fmod ns.length < ns.length := fun q => Int.fmod_lt_of_pos k q
  (sym => simp drw; tactic =>
  walk_at "go"
  with_reducible first | refine at_cond (fun q => ?_) (fun q => ?_) | refine at_condN (fun q => ?_) (fun q => ?_) | refine at_if (fun q => ?_) (fun q => ?_)
  all_goals try (simp only [cI1] at q; simp only [cI2] at q)
  ·
    (sym => simp drw; tactic =>
    walk_at "go"
    refine at_rfl ?_
    have q' : 0 < ns.length := by walk_at "om"
    unfold draw cell
    rw [if_pos q'])
  ·
    (sym => simp drw; tactic =>
    walk_at "go"
    refine at_rfl ?_
    have q' : ¬ 0 < ns.length := by walk_at "om"
    unfold draw cell
    rw [if_neg q', Int.zero_mul, Int.zero_add]))
/-! _law_same of a value and itself -/
theorem okD_fn {d g : Nat} {xs : List PV} (h : okD d (.fn g xs)) : False := by cases d <;> exact h
theorem okD_adr {d : Nat} {a : Addr} (h : okD d (.adr a)) : False := by cases d <;> exact h
theorem okD_exc {d : Nat} {c f : Str} {q : PV} (h : okD d (.exc c f q)) : False := by cases d <;> exact h
include sme Me.bd_n
theorem same_refl : ∀ (d : Nat) (p : PV), okD d p → ∀ n, fv (fns P (lu (lus n d))) 21 [p, p] = some (.sh (.bl true))
  | d, p, hd, n => by
    rw [r21, b21]
    refine at_eq ?_
    cases p
    case non =>
      (sym => simp sme; tactic =>
      walk_at "go"
      exact at_rfl rfl)
    case bl b =>
      (sym => simp sme; tactic =>
      walk_at "go"
      exact at_rfl rfl)
    case int b =>
      (sym => simp sme; tactic =>
      walk_at "go"
      exact at_rfl rfl)
    case str b =>
      (sym => simp sme; tactic =>
      walk_at "go"
      exact at_rfl rfl)
    case dct t kvs => exact (okD_dct hd).elim
    case obj c ns xs => exact (okD_obj hd).elim
    case fn g xs => exact (okD_fn hd).elim
    case adr a => exact (okD_adr hd).elim
    case exc c f q => exact (okD_exc hd).elim
    case lst xs =>
      match d, hd with
      | 0, hd => exact absurd hd id
      | d + 1, hd =>
        (sym => simp sme; tactic =>
        walk_at "go"
        refine at_comp xs (fun x => PV.tup [x, x]) (fun _ => .bl true) zipWith_self (fun z hz => ?_) hd.1 ?_
        · have ih : fv (fns P (lus n (d + 1))) 21 [z, z] = some (.sh (.bl true)) := same_refl d z (hd.2 z hz) n
          (sym => simp sme [ih]; tactic =>
          walk_at "go"
          exact at_rfl rfl)
        · rw [show (xs.map fun _ => PV.bl true) = (xs.map fun _ => true).map PV.bl by rw [List.map_map]; rfl]
          (sym => simp sme [all_trues]; tactic =>
          walk_at "go"
          exact at_rfl rfl))
    case tup xs =>
      match d, hd with
      | 0, hd => exact absurd hd id
      | d + 1, hd =>
        (sym => simp sme; tactic =>
        walk_at "go"
        refine at_comp xs (fun x => PV.tup [x, x]) (fun _ => .bl true) zipWith_self (fun z hz => ?_) hd.1 ?_
        · have ih : fv (fns P (lus n (d + 1))) 21 [z, z] = some (.sh (.bl true)) := same_refl d z (hd.2 z hz) n
          (sym => simp sme [ih]; tactic =>
          walk_at "go"
          exact at_rfl rfl)
        · rw [show (xs.map fun _ => PV.bl true) = (xs.map fun _ => true).map PV.bl by rw [List.map_map]; rfl]
          (sym => simp sme [all_trues]; tactic =>
          walk_at "go"
          exact at_rfl rfl))
/-! depth of values -/
theorem okD_tupM {α : Type} {d : Nat} {g : α → PV} {L : List α} (hl : L.length ≤ 16777216) (h : ∀ a ∈ L, okD d (g a)) : okD (d + 1) (.tup (L.map g)) :=
  ⟨by rw [List.length_map]; exact hl, fun x hx => by obtain ⟨a, ha, rfl⟩ := List.mem_map.mp hx; exact h a ha⟩
theorem okD_two {d : Nat} {x y : PV} (hx : okD d x) (hy : okD d y) : okD (d + 1) (.tup [x, y]) :=
  ⟨Nat.le_of_ble_eq_true rfl, fun z hz => by
    rcases List.mem_cons.mp hz with rfl | hz
    · exact hx
    · rw [List.mem_singleton.mp hz]; exact hy⟩
theorem same_eq {p : PV} {n : Nat} (h : okD 7 p) : fv (fns P (lu (lu (lu (lu (lu (lu (lu (lu n))))))))) 21 [p, p] = some (.sh (.bl true)) := same_refl 7 p h n
theorem okD_up : ∀ {d : Nat} {p : PV}, okD d p → ∀ k, okD (d + k) p
  | d, .non, h, k => by cases (d + k) <;> trivial
  | d, .bl b, h, k => okD_bl _
  | d, .int b, h, k => okD_int _
  | d, .str b, h, k => okD_str _
  | d, .dct _ _, h, k => (okD_dct h).elim
  | d, .obj _ _ _, h, k => (okD_obj h).elim
  | d, .fn _ _, h, k => (okD_fn h).elim
  | d, .adr _, h, k => (okD_adr h).elim
  | d, .exc _ _ _, h, k => (okD_exc h).elim
  | 0, .lst xs, h, k => absurd h id
  | 0, .tup xs, h, k => absurd h id
  | d + 1, .lst xs, h, k => by
    rw [Nat.add_right_comm]
    exact ⟨h.1, fun x hx => okD_up (h.2 x hx) k⟩
  | d + 1, .tup xs, h, k => by
    rw [Nat.add_right_comm]
    exact ⟨h.1, fun x hx => okD_up (h.2 x hx) k⟩
/-! texts as codes (k08) -/
theorem bT {b : Bool} : b = true ∨ b = false := by cases b; exact .inr rfl; exact .inl rfl
noncomputable abbrev SS (l : List Nat) : Str := ⟨l.toArray⟩
noncomputable def LET : List Nat := (List.range 26).map (· + 97)
noncomputable def RNK : List Nat := [49, 50, 51, 52, 53, 54, 55, 56, 57]
theorem let_s : Str.ofString "abcdefghijklmnopqrstuvwxyz" = SS LET := by rfl
theorem rnk_s : Str.ofString "123456789" = SS RNK := by rfl
theorem bl_s : Str.ofString " " = SS [32] := by rfl
theorem in_let {c : Nat} : in2 (.str ⟨#[c]⟩) (.str (Str.ofString "abcdefghijklmnopqrstuvwxyz")) = some (decide (c ∈ LET)) := by
  rw [let_s]
  show some (!(Builtin.Str.occurrences (SS LET) (SS [c]) 0 (SS LET).length 1).isEmpty) = _
  rw [SX.in_one]
theorem in_rnk {c : Nat} : in2 (.str ⟨#[c]⟩) (.str (Str.ofString "123456789")) = some (decide (c ∈ RNK)) := by
  rw [rnk_s]
  show some (!(Builtin.Str.occurrences (SS RNK) (SS [c]) 0 (SS RNK).length 1).isEmpty) = _
  rw [SX.in_one]
theorem it_S {a : List Nat} : items1 (.str (SS a)) = some (a.map fun c => .str ⟨#[c]⟩) := rfl
theorem len_S {a : List Nat} : (SS a).length = a.length := SX.S_len a
theorem S_eq {a b : List Nat} : decide (SS a = SS b) = decide (a = b) := decide_eq_decide.mpr ⟨SX.S_inj, fun h => by rw [h]⟩
theorem S_tl (s : Str) : SS s.cps.toList = s := SX.S_tl s
/-- what the law's lines say -/
inductive Ln where
  | bell (a : List Nat) (r : Nat) | row (a : List Nat) | shut (ws : List (List Nat)) | opn | still (n : Nat)
noncomputable def cds (s : String) : List Nat := (Str.ofString s).cps.toList
noncomputable def wordsC : Ln → List (List Nat)
  | .bell a r => [cds "bell", a, [48 + r]]
  | .row a => [cds "row", a]
  | .shut ws => cds "shut" :: ws
  | .opn => [cds "open"]
  | .still n => [cds "still", [48 + n]]
noncomputable def txt (l : Ln) : Str := SS (TL.joinL [32] (wordsC l))
/-- names -/
noncomputable def nmO (a : List Nat) : Prop := 1 ≤ a.length ∧ a.length ≤ 8 ∧ ∀ c ∈ a, c ∈ LET
noncomputable def lnO : Ln → Prop
  | .bell a r => nmO a ∧ 1 ≤ r ∧ r ≤ 9
  | .row a => nmO a
  | .shut ws => ws.length ≤ 3 ∧ 1 ≤ ws.length ∧ ∀ w ∈ ws, nmO w
  | .opn => True
  | .still n => 1 ≤ n ∧ n ≤ 9
theorem nm_free {a : List Nat} (h : nmO a) : 32 ∉ a := fun h32 => by
  have := h.2.2 32 h32
  revert this
  decide
theorem wordsC_free {l : Ln} (h : lnO l) : ∀ w ∈ wordsC l, 32 ∉ w := fun w hw => by
  cases l with
  | bell a r =>
    obtain ⟨h1, h2, h3⟩ := h
    rcases List.mem_cons.mp hw with rfl | hw
    · decide
    · rcases List.mem_cons.mp hw with rfl | hw
      · exact nm_free h1
      · rw [List.mem_singleton.mp hw]
        intro q
        have := List.mem_singleton.mp q
        omega
  | row a =>
    rcases List.mem_cons.mp hw with rfl | hw
    · decide
    · rw [List.mem_singleton.mp hw]; exact nm_free h
  | shut ws =>
    rcases List.mem_cons.mp hw with rfl | hw
    · decide
    · exact nm_free (h.2.2 w hw)
  | opn => rw [List.mem_singleton.mp hw]; decide
  | still n =>
    obtain ⟨h2, h3⟩ := h
    rcases List.mem_cons.mp hw with rfl | hw
    · decide
    · rw [List.mem_singleton.mp hw]
      intro q
      have := List.mem_singleton.mp q
      omega
theorem wordsC_ne (l : Ln) : wordsC l ≠ [] := by cases l <;> exact List.cons_ne_nil _ _
theorem split_txt {l : Ln} (h : lnO l) : Txt.split (txt l) (Str.ofString " ") = (wordsC l).map SS := by
  unfold txt
  rw [bl_s]
  have e := SX.split_S (a := TL.joinL [32] (wordsC l)) (b := [32]) (by decide) (by decide)
  rw [SX.spl_join (wordsC_ne l) (wordsC_free h)] at e
  exact e
theorem joinL_len : ∀ ws : List (List Nat), (TL.joinL [32] ws).length ≤ (ws.map List.length).sum + ws.length
  | [] => Nat.zero_le _
  | [a] => by
    show a.length ≤ _
    simp only [List.map_cons, List.map_nil, List.sum_cons, List.sum_nil, List.length_cons, List.length_nil]; omega
  | a :: b :: ws => by
    have := joinL_len (b :: ws)
    show (a ++ ([32] ++ TL.joinL [32] (b :: ws))).length ≤ _
    rw [List.length_append, List.length_append, List.map_cons, List.sum_cons, List.length_cons (a := a)]
    have : [32].length = 1 := rfl
    omega
theorem sum_8 : ∀ {ws : List (List Nat)}, (∀ w ∈ ws, nmO w) → (ws.map List.length).sum ≤ 8 * ws.length
  | [], _ => Nat.zero_le _
  | w :: ws, h => by
    have h1 := (h w List.mem_cons_self).2.1
    have := sum_8 (ws := ws) fun x hx => h x (List.mem_cons_of_mem _ hx)
    rw [List.map_cons, List.sum_cons, List.length_cons]; omega
theorem txt_len {l : Ln} (h : lnO l) : (txt l).length ≤ 60 := by
  unfold txt
  rw [len_S]
  refine Nat.le_trans (joinL_len _) ?_
  have c4 : (cds "bell").length = 4 ∧ (cds "row").length = 3 ∧ (cds "shut").length = 4 ∧ (cds "open").length = 4 ∧ (cds "still").length = 5 := by decide
  cases l with
  | bell a r =>
    have := h.1.2.1
    simp only [wordsC, List.map_cons, List.map_nil, List.sum_cons, List.sum_nil, List.length_cons, List.length_nil]; omega
  | row a =>
    have := h.2.1
    simp only [wordsC, List.map_cons, List.map_nil, List.sum_cons, List.sum_nil, List.length_cons, List.length_nil]; omega
  | shut ws =>
    have h1 := h.1
    have := sum_8 h.2.2
    simp only [wordsC, List.map_cons, List.sum_cons, List.length_cons]; omega
  | opn => simp only [wordsC, List.map_cons, List.map_nil, List.sum_cons, List.sum_nil, List.length_cons, List.length_nil]; omega
  | still n => simp only [wordsC, List.map_cons, List.map_nil, List.sum_cons, List.sum_nil, List.length_cons, List.length_nil]; omega
/-! is_name, named, figure_of, deed_by -/
include nmm in_let it_S len_S
theorem is_name_k {L : List Nat} {n : Nat} (hL : L.length ≤ 1000) : fv (fns P (lu n)) 1 [.str (SS L)] = some (.sh (.bl (decide (1 ≤ (L.length : Int)) && (decide ((L.length : Int) ≤ 8) && L.all fun c => decide (c ∈ LET))))) := by
  rw [r1, b1]
  refine at_eq ?_
  rcases bT (b := decide (1 ≤ (L.length : Int))) with f1 | f1
  · rcases bT (b := decide ((L.length : Int) ≤ 8)) with f2 | f2
    · rw [f1, f2, Bool.true_and, Bool.true_and]
      (sym => simp nmm [f1, f2]; tactic =>
      walk_at "go"
      refine at_comp L (fun c => .str ⟨#[c]⟩) (fun c => .bl (decide (c ∈ LET))) rfl (fun c hc => ?_) (by omega) ?_
      ·
        (sym => simp nmm; tactic =>
        walk_at "go"
        exact at_rfl rfl)
      rw [show (L.map fun c => PV.bl (decide (c ∈ LET))) = (L.map fun c => decide (c ∈ LET)).map PV.bl by rw [List.map_map]; rfl]
      have e1 : ((L.map fun c => decide (c ∈ LET)).all id) = L.all fun c => decide (c ∈ LET) := by rw [List.all_map]; rfl
      (sym => simp nmm [e1]; tactic =>
      walk_at "go"
      exact at_rfl rfl))
    · rw [f1, f2, Bool.false_and, Bool.and_false]
      (sym => simp nmm [f1, f2]; tactic =>
      walk_at "go"
      exact at_rfl rfl)
  · rw [f1, Bool.false_and]
    (sym => simp nmm [f1]; tactic =>
    walk_at "go"
    exact at_rfl rfl)
theorem is_name_t {a : List Nat} {n : Nat} (h : nmO a) : fv (fns P (lu n)) 1 [.str (SS a)] = some (.sh (.bl true)) := by
  have e := is_name_k (L := a) (n := n) (by have := h.2.1; omega)
  rw [decide_eq_true (show 1 ≤ (a.length : Int) by have := h.1; omega), decide_eq_true (show (a.length : Int) ≤ 8 by have := h.2.1; omega), Bool.true_and, Bool.true_and, List.all_eq_true.mpr fun c hc => decide_eq_true (h.2.2 c hc)] at e
  exact e
noncomputable abbrev Bl := List Nat × Int
noncomputable def blP (b : Bl) : PV := .tup [.str (SS b.1), .int b.2]
noncomputable def bl0 : Bl := ([], 0)
theorem bl_0 {b : Bl} : ix2 (blP b) (.int 0) = some (.str (SS b.1)) := rfl
theorem bl_at {L : List Bl} {i : Nat} (h : i < L.length) : atI (L.map blP) (i : Int) = some (blP (L.getD i bl0)) := by rw [atI_map blP L bl0 _ (by omega) (by omega), Int.toNat_natCast]
/-- the first of a name -/
noncomputable def idx (L : List Bl) (a : List Nat) : Option Nat := L.findIdx? fun b => decide (b.1 = a)
noncomputable def nnP : Option Nat → PV
  | none => .non
  | some k => .int (k : Int)
include ndm bl_0 S_eq
theorem named_k {L : List Bl} {a : List Nat} {n : Nat} (hL : L.length ≤ 1000) : fv (fns P (lu n)) 3 [.lst (L.map blP), .str (SS a)] = some (.sh (nnP (idx L a))) := by
  rw [r3, b3]
  refine at_eq ?_
  (sym => simp ndm; tactic =>
  walk_at "go"
  refine at_forSf (List.range L.length) 0 (fun (k : Nat) => .int (k : Int)) (fun i e => (∃ j2, e = [some (.sh (.lst (L.map blP))), some (.sh (.str (SS a))), j2]) ∧ ∀ k, k < i → (L.getD k bl0).1 ≠ a) (fun _ => False) (rangeL_zero _) ⟨⟨_, rfl⟩, fun k h => by omega⟩ ?_ ?_
  · rintro i e hi ⟨⟨j2, rfl⟩, hn⟩
    rw [List.length_range] at hi
    rw [show (List.range L.length).getD i 0 = i by rw [List.getD_eq_getElem?_getD, List.getElem?_range hi]; rfl]
    have ea := bl_at hi
    by_cases q : (L.getD i bl0).1 = a
    · have q1 : decide ((L.getD i bl0).1 = a) = true := decide_eq_true q
      have ei : idx L a = some i := by
        unfold idx
        rw [List.findIdx?_eq_some_iff_getElem]
        rw [List.getD_eq_getElem?_getD, List.getElem?_eq_getElem hi] at q
        refine ⟨hi, decide_eq_true q, fun j hj => ?_⟩
        have := hn j hj
        rw [List.getD_eq_getElem?_getD, List.getElem?_eq_getElem (by omega)] at this
        simp only [decide_eq_true_eq]
        exact this
      rw [ei]
      (sym => simp ndm [ea, q1]; tactic =>
      walk_at "go"
      exact nr_ret rfl)
    · have q1 : decide ((L.getD i bl0).1 = a) = false := decide_eq_false q
      (sym => simp ndm [ea, q1]; tactic =>
      walk_at "go"
      refine nr_nx ⟨⟨_, rfl⟩, fun k hk => ?_⟩
      rcases Nat.lt_succ_iff_lt_or_eq.mp hk with h | rfl
      · exact hn k h
      · exact q)
  · rintro e (⟨⟨j2, rfl⟩, hn⟩ | hf)
    · rw [List.length_range] at hn
      have ei : idx L a = none := by
        unfold idx
        rw [List.findIdx?_eq_none_iff]
        intro b hb
        obtain ⟨k, hk, rfl⟩ := List.getElem_of_mem hb
        have := hn k hk
        rw [List.getD_eq_getElem?_getD, List.getElem?_eq_getElem hk] at this
        simp only [decide_eq_false_iff_not]
        exact this
      rw [ei]
      (sym => simp ndm; tactic =>
      walk_at "go"
      exact at_rfl rfl)
    · exact hf.elim)
theorem int_fig {k : Nat} (h1 : 1 ≤ k) (h9 : k ≤ 9) : PySem.intText? (SS [48 + k]) = some (k : Int) := by
  have e := SX.int_S (a := [48 + k]) (by simp; omega) (by simp) (by simp)
  rw [e]
  congr 2
  show (0 * 10 + (48 + k - 48)) = k
  omega
theorem rnk_in {k : Nat} (h1 : 1 ≤ k) (h9 : k ≤ 9) : decide (48 + k ∈ RNK) = true := by
  rcases (show k = 1 ∨ k = 2 ∨ k = 3 ∨ k = 4 ∨ k = 5 ∨ k = 6 ∨ k = 7 ∨ k = 8 ∨ k = 9 by omega) with rfl | rfl | rfl | rfl | rfl | rfl | rfl | rfl | rfl <;> decide
theorem in_rnk1 {c : Nat} : in2 (.str (SS [c])) (.str (Str.ofString "123456789")) = some (decide (c ∈ RNK)) := in_rnk
theorem len_1 {c : Nat} : (SS [c]).length = 1 := rfl
include fgm in_rnk1 len_1
theorem figure_k {k n : Nat} (h1 : 1 ≤ k) (h9 : k ≤ 9) : fv (fns P (lu n)) 4 [.str (SS [48 + k])] = some (.sh (.int (k : Int))) := by
  have e1 := int_fig h1 h9
  have e2 := rnk_in h1 h9
  rw [r4, b4]
  refine at_eq ?_
  generalize 48 + k = c at *
  (sym => simp fgm [e1, e2]; tactic =>
  walk_at "go"
  exact at_rfl rfl)
include dbm Me.bd_n
theorem short_k {k n : Nat} (h1 : 1 ≤ k) (h9 : k ≤ 9) : fv (fns P (lu (lu (lu n)))) 9 [.lst [.str (Str.ofString "still"), .str (SS [48 + k])], .lst []] = some (.sh (.tup [.str (Str.ofString "still"), .int (k : Int)])) := by
  have e1 := figure_k (n := (lu n)) h1 h9
  rw [r9, b9]
  refine at_eq ?_
  generalize SS [48 + k] = w at *
  (sym => simp dbm [e1]; tactic =>
  walk_at "go"
  exact at_rfl rfl)
theorem deed_k {k n : Nat} (h1 : 1 ≤ k) (h9 : k ≤ 9) : fv (fns P (lu (lu (lu (lu n))))) 10 [.lst [.str (Str.ofString "still"), .str (SS [48 + k])], .lst []] = some (.sh (.tup [.str (Str.ofString "still"), .int (k : Int)])) := by
  have e3 := short_k (n := (n)) h1 h9
  rw [r10, b10]
  refine at_eq ?_
  generalize SS [48 + k] = w at *
  (sym => simp dbm [e3]; tactic =>
  walk_at "go"
  exact at_rfl rfl)
/-! the Reader -/
structure RS where
  bells : List Bl
  rows : List (List (Int × Int))
  at_ : Int
  places : List (Int × Int)
  st : List Int
noncomputable abbrev rnm : List Str := ["boxes", "bells", "rows", "at", "places", "stretches"]
noncomputable def plP (q : Int × Int) : PV := .tup [.tup [.str (Str.ofString "still"), .int q.1], .int q.2]
noncomputable def rowP (L : List (Int × Int)) : PV := .tup (L.map plP)
noncomputable abbrev rdV (bells : List Bl) (rows : List (List (Int × Int))) (at_ : Int) (places : List (Int × Int)) (st : List Int) : Sl := .ins "Reader" rnm [.own [], .own (bells.map blP), .own (rows.map rowP), .sh (.int at_), .own (places.map plP), .own (st.map PV.int)]
noncomputable abbrev rdW (bells : List Bl) (rows : List (List (Int × Int))) (at_ : Int) (places : List (Int × Int)) (st : List Int) : PV := .obj "Reader" rnm [.lst [], .lst (bells.map blP), .lst (rows.map rowP), .int at_, .lst (places.map plP), .lst (st.map PV.int)]
noncomputable def rdS (s : RS) : Sl := rdV s.bells s.rows s.at_ s.places s.st
noncomputable def rs0 : RS := ⟨[], [], -1, [], []⟩
theorem flats_map {α : Type} {g : α → PV} (h : ∀ a, (g a).flat = true) : ∀ L : List α, PV.flats (L.map g) = true
  | [] => rfl
  | a :: L => by
    show ((g a).flat && PV.flats (L.map g)) = true
    rw [h a, flats_map h L]; rfl
theorem bls_flat {L : List Bl} : PV.flats (L.map blP) = true := flats_map (fun _ => rfl) L
theorem pls_flat {L : List (Int × Int)} : PV.flats (L.map plP) = true := flats_map (fun _ => rfl) L
theorem rowP_flat {L : List (Int × Int)} : (rowP L).flat = true := by unfold rowP; rw [PV.flat]; exact pls_flat
theorem rows_flat {L : List (List (Int × Int))} : PV.flats (L.map rowP) = true := flats_map (fun _ => rowP_flat) L
theorem ints_flat {L : List Int} : PV.flats (L.map PV.int) = true := flats_map (fun _ => rfl) L
include rdi Me.bd_n
theorem rinit_k {n : Nat} : fns P (lu n) 11 [.ins "Reader" [] []] = some (.sh .non, [rdV [] [] (-1) [] []]) := by
  have key : At (fun X => X = some (Me.Fl.next [some (rdV [] [] (-1) [] [])])) wt (exs (fns P (n)) b11 [some (.ins "Reader" [] [])]) := by
    rw [b11]
    (sym => simp rdi; tactic =>
    walk_at "go"
    exact at_rfl rfl)
  show fns P (lu (n)) _ _ = _
  rw [rl11, at_start key]
  rfl
theorem cmA {x : Nat} {s : Str} : calmE (.att (.var x) s Cs) = true := rfl
include rdb cmA bls_flat rows_flat pls_flat ints_flat
theorem tbell_k {bells : List Bl} {rows : List (List (Int × Int))} {places : List (Int × Int)} {st : List Int} {at_ : Int} {a : List Nat} {r n : Nat} (h1 : bells.length < 6) (ha : nmO a) (hm : a ≠ cds "main") (hi : idx bells a = none) (r1 : 1 ≤ r) (r9 : r ≤ 9) :
    fns P (lu (lu n)) 14 [rdV bells rows at_ places st, .sh (.lst [.str (Str.ofString "bell"), .str (SS a), .str (SS [48 + r])])] = some (.sh (.bl true), [rdV (bells ++ [(a, (r : Int))]) rows at_ places st]) := by
  have key : At (fun X => X = some (Me.Fl.ret (.sh (.bl true)) [some (rdV (bells ++ [(a, (r : Int))]) rows at_ places st), some (.sh (.lst [.str (Str.ofString "bell"), .str (SS a), .str (SS [48 + r])]))])) wt (exs (fns P (lu n)) b14 [some (rdV bells rows at_ places st), some (.sh (.lst [.str (Str.ofString "bell"), .str (SS a), .str (SS [48 + r])]))]) := by
    have c1 : decide ((bells.length : Int) = 6) = false := decide_eq_false (by omega)
    have c2 : decide (SS a = Str.ofString "main") = false := decide_eq_false fun h => hm (SX.S_inj (h.trans (S_tl _).symm))
    have e1 := is_name_t (n := (n)) ha
    have e2 := named_k (L := bells) (a := a) (n := (n)) (by omega)
    rw [hi] at e2
    have e2' : fv _ _ _ = some (.sh .non) := e2
    have e3 := figure_k (n := (n)) r1 r9
    have eb : (bells ++ [(a, (r : Int))]).map blP = bells.map blP ++ [blP (a, (r : Int))] := by rw [List.map_append]; rfl
    rw [b14]
    unfold rdV
    rw [eb]
    generalize 48 + r = c at *
    (sym => simp rdb [c1, c2, e1, e2', e3]; tactic =>
    walk_at "go"
    exact at_rfl rfl)
  show fns P (lu (lu n)) _ _ = _
  rw [rl14, at_start key]
  rfl
theorem trow0_k {bells : List Bl} {rows : List (List (Int × Int))} {places : List (Int × Int)} {st : List Int} {n : Nat} (h1 : bells.length ≤ 6) :
    fns P (lu n) 15 [rdV bells rows (-1) places st, .sh (.lst [.str (Str.ofString "row"), .str (Str.ofString "main")])] = some (.sh (.bl true), [rdV bells rows 0 [] st]) := by
  have key : At (fun X => ∃ j2, X = some (Me.Fl.ret (.sh (.bl true)) [some (rdV bells rows 0 [] st), some (.sh (.lst [.str (Str.ofString "row"), .str (Str.ofString "main")])), j2])) wt (exs (fns P (n)) b15 [some (rdV bells rows (-1) places st), some (.sh (.lst [.str (Str.ofString "row"), .str (Str.ofString "main")])), none]) := by
    have c1 : decide ((-1 : Int) = (bells.length : Int)) = false := decide_eq_false (by omega)
    rw [b15]
    (sym => simp rdb [c1]; tactic =>
    walk_at "go"
    exact at_end ⟨_, rfl⟩)
  obtain ⟨j2, e⟩ := at_start key
  show fns P (lu (n)) _ _ = _
  rw [rl15, e]
  rfl
theorem trow_k {bells : List Bl} {rows : List (List (Int × Int))} {places : List (Int × Int)} {k n : Nat} (hk : k < bells.length) (h1 : bells.length ≤ 6) (hp : places ≠ []) (hr : rows.length ≤ 10) (hl : places.length ≤ 12) :
    fns P (lu n) 15 [rdV bells rows (k : Int) places [], .sh (.lst [.str (Str.ofString "row"), .str (SS (bells.getD k bl0).1)])] = some (.sh (.bl true), [rdV bells (rows ++ [places]) ((k : Int) + 1) [] []]) := by
  have key : At (fun X => ∃ j2, X = some (Me.Fl.ret (.sh (.bl true)) [some (rdV bells (rows ++ [places]) ((k : Int) + 1) [] []), some (.sh (.lst [.str (Str.ofString "row"), .str (SS (bells.getD k bl0).1)])), j2])) wt (exs (fns P (n)) b15 [some (rdV bells rows (k : Int) places []), some (.sh (.lst [.str (Str.ofString "row"), .str (SS (bells.getD k bl0).1)])), none]) := by
    have c1 : decide ((k : Int) = (bells.length : Int)) = false := decide_eq_false (by omega)
    have c2 : decide ((k : Int) = -1) = false := decide_eq_false (by omega)
    have c3 : decide (0 ≤ (k : Int)) = true := decide_eq_true (by omega)
    have ea := bl_at hk
    have c4 : decide (0 < places.length) = true := decide_eq_true (List.length_pos_iff.mpr hp)
    have eb : (rows ++ [places]).map rowP = rows.map rowP ++ [.tup (places.map plP)] := by rw [List.map_append]; rfl
    rw [b15]
    unfold rdV
    rw [eb]
    generalize bells.getD k bl0 = b at *
    have c5 : decide (SS b.1 = SS b.1) = true := decide_eq_true rfl
    have b0 := bl_0 (b := b)
    (sym => simp rdb [c1, c2, c3, ea, b0, c4, c5]; tactic =>
    walk_at "go"
    exact at_end ⟨_, rfl⟩)
  obtain ⟨j2, e⟩ := at_start key
  show fns P (lu (n)) _ _ = _
  rw [rl15, e]
  rfl
/-- the stretches' word -/
noncomputable def orL (st : List Int) : Int := st.foldl Builtin.bitOr 0
theorem asInts_map : ∀ st : List Int, asInts (st.map PV.int) = some st
  | [] => rfl
  | a :: st => by
    show (asInts (st.map PV.int)).map _ = _
    rw [asInts_map st]; rfl
theorem orE_ex {r w d : Option Sl} : ∀ (st : List Int) (a : Int) (x : Option Sl), ∃ j4, orE 3 4 [r, w, d, some (.sh (.int a)), x] a st = [r, w, d, some (.sh (.int (st.foldl Builtin.bitOr a))), j4]
  | [], a, x => ⟨x, rfl⟩
  | n :: st, a, x => orE_ex st (Builtin.bitOr a n) (some (.sh (.int n)))
theorem tstill_k {bells : List Bl} {rows : List (List (Int × Int))} {places : List (Int × Int)} {st : List Int} {k j n : Nat} (hl : places.length < 12) (hs : st.length ≤ 12) (j1 : 1 ≤ j) (j9 : j ≤ 9) :
    fns P (lu (lu (lu (lu (lu n))))) 12 [rdV bells rows (k : Int) places st, .sh (.lst [.str (Str.ofString "still"), .str (SS [48 + j])])] = some (.sh (.bl true), [rdV bells rows (k : Int) (places ++ [((j : Int), orL st)]) st]) := by
  have key : At (fun X => ∃ j2 j3 j4, X = some (Me.Fl.ret (.sh (.bl true)) [some (rdV bells rows (k : Int) (places ++ [((j : Int), orL st)]) st), some (.sh (.lst [.str (Str.ofString "still"), .str (SS [48 + j])])), j2, j3, j4])) wt (exs (fns P (lu (lu (lu (lu n))))) b12 [some (rdV bells rows (k : Int) places st), some (.sh (.lst [.str (Str.ofString "still"), .str (SS [48 + j])])), none, none, none]) := by
    have c1 : decide ((k : Int) = -1) = false := decide_eq_false (by omega)
    have c2 : decide ((places.length : Int) = 12) = false := decide_eq_false (by omega)
    have e1 := deed_k (n := (n)) j1 j9
    have eb : (places ++ [((j : Int), orL st)]).map plP = places.map plP ++ [.tup [.tup [.str (Str.ofString "still"), .int (j : Int)], .int (orL st)]] := by rw [List.map_append]; rfl
    rw [b12]
    unfold rdV
    rw [eb]
    generalize 48 + j = c at *
    have en : asInts (st.map PV.int) = some st := asInts_map st
    have oj : ∀ e2 : PEnv, e2 = [some (rdV bells rows (k : Int) places st), some (.sh (.lst [.str (Str.ofString "still"), .str (SS [c])])), some (.sh (.tup [.str (Str.ofString "still"), .int (j : Int)])), some (.sh (.int 0)), none] → ∃ j4, orE 3 4 e2 0 st = [some (rdV bells rows (k : Int) places st), some (.sh (.lst [.str (Str.ofString "still"), .str (SS [c])])), some (.sh (.tup [.str (Str.ofString "still"), .int (j : Int)])), some (.sh (.int (orL st))), j4] := fun e2 h => by subst h; exact orE_ex st 0 none
    obtain ⟨j4, oj⟩ := oj _ rfl
    (sym => simp rdb [c1, c2, e1, en, oj]; tactic =>
    walk_at "go"
    exact at_end ⟨_, _, _, rfl⟩)
  obtain ⟨j2, j3, j4, e⟩ := at_start key
  show fns P (lu (lu (lu (lu (lu n))))) _ _ = _
  rw [rl12, e]
  rfl
theorem topen_k {bells : List Bl} {rows : List (List (Int × Int))} {places : List (Int × Int)} {st : List Int} {x : Int} {k n : Nat} :
    fns P (lu (lu (lu (lu (lu n))))) 12 [rdV bells rows (k : Int) places (st ++ [x]), .sh (.lst [.str (Str.ofString "open")])] = some (.sh (.bl true), [rdV bells rows (k : Int) places st]) := by
  have key : At (fun X => ∃ j2 j3 j4, X = some (Me.Fl.ret (.sh (.bl true)) [some (rdV bells rows (k : Int) places st), some (.sh (.lst [.str (Str.ofString "open")])), j2, j3, j4])) wt (exs (fns P (lu (lu (lu (lu n))))) b12 [some (rdV bells rows (k : Int) places (st ++ [x])), some (.sh (.lst [.str (Str.ofString "open")])), none, none, none]) := by
    have c1 : decide ((k : Int) = -1) = false := decide_eq_false (by omega)
    have e1 : decide (0 < ((st ++ [x]).map PV.int).length) = true := decide_eq_true (by rw [List.length_map, List.length_append]; simp)
    have e2 : ((st ++ [x]).map PV.int).dropLast = st.map PV.int := by rw [List.map_append]; exact List.dropLast_concat
    have e3 : ¬ ((st ++ [x]).map PV.int).length = 0 := by rw [List.length_map, List.length_append]; simp
    rw [b12]
    unfold rdV
    generalize (st ++ [x]).map PV.int = Z at *
    (sym => simp rdb [c1, e1, e2, e3]; tactic =>
    walk_at "go"
    exact at_end ⟨_, _, _, rfl⟩)
  obtain ⟨j2, j3, j4, e⟩ := at_start key
  show fns P (lu (lu (lu (lu (lu n))))) _ _ = _
  rw [rl12, e]
  rfl
/-! a stretch, the lines' dispatch -/
noncomputable def shW (bells : List Bl) (ws : List (List Nat)) : Nat := ws.foldl (fun a w => a ||| 2 ^ ((idx bells w).getD 0 + 1)) 0
theorem shW_next {bells : List Bl} {ws : List (List Nat)} {i : Nat} (h : i < ws.length) : shW bells (ws.take (i + 1)) = shW bells (ws.take i) ||| 2 ^ ((idx bells (ws.getD i [])).getD 0 + 1) := by
  unfold shW
  rw [take_next ws [] i h, List.foldl_append]; rfl
theorem shW_pos {bells : List Bl} : ∀ {ws : List (List Nat)}, ws ≠ [] → 0 < shW bells ws := fun {ws} h => by
  obtain ⟨l, w, rfl⟩ : ∃ l w, ws = l ++ [w] := ⟨_, _, (List.dropLast_concat_getLast h).symm⟩
  unfold shW
  rw [List.foldl_append]
  refine Nat.lt_of_lt_of_le (Nat.pow_pos (n := (idx bells w).getD 0 + 1) (show 0 < 2 by decide)) ?_
  exact Nat.right_le_or
theorem bor_nat (a b : Nat) : Builtin.bitOr (a : Int) (b : Int) = ((a ||| b : Nat) : Int) := by
  have n1 : Builtin.bitNot (Builtin.bitNot (a : Int)) = (a : Int) := by unfold Builtin.bitNot; omega
  have n2 : Builtin.bitNot (Builtin.bitNot (b : Int)) = (b : Int) := by unfold Builtin.bitNot; omega
  have c1 : decide (0 ≤ Builtin.bitNot (a : Int)) = false := decide_eq_false (by unfold Builtin.bitNot; omega)
  have c2 : decide (0 ≤ Builtin.bitNot (b : Int)) = false := decide_eq_false (by unfold Builtin.bitNot; omega)
  unfold Builtin.bitOr Builtin.bitAnd
  rw [c1, c2]
  show Builtin.bitNot (Builtin.bitNot (((Builtin.bitNot (Builtin.bitNot (a : Int))).toNat ||| (Builtin.bitNot (Builtin.bitNot (b : Int))).toNat : Nat) : Int)) = _
  rw [n1, n2]
  show Builtin.bitNot (Builtin.bitNot (((a ||| b : Nat) : Int))) = _
  unfold Builtin.bitNot
  omega
theorem bor_pw {a k : Nat} : Builtin.bitOr (a : Int) ((2 : Int) ^ k) = ((a ||| 2 ^ k : Nat) : Int) := by
  have e : ((2 : Int) ^ k) = ((2 ^ k : Nat) : Int) := by push_cast; rfl
  rw [e, bor_nat]
theorem idx_lt {L : List Bl} {a : List Nat} {k : Nat} (h : idx L a = some k) : k < L.length := by
  unfold idx at h
  exact (List.findIdx?_eq_some_iff_getElem.mp h).1
theorem cut1 {x : PV} {xs : List PV} : cutP (x :: xs) (some 1) none = xs := by
  show cutP (x :: xs) (some ((1 : Nat) : Int)) none = xs
  unfold cutP
  rw [HT.sIx_none, HT.sIx_nat, List.length_cons, show min 1 (xs.length + 1) = 1 by omega]
  show xs.take (xs.length + 1 - 1) = xs
  rw [Nat.add_sub_cancel, List.take_length]
include rds cmA bls_flat rows_flat pls_flat ints_flat bor_pw
theorem tshut_k {bells : List Bl} {rows : List (List (Int × Int))} {places : List (Int × Int)} {st : List Int} {at_ : Int} {ws : List (List Nat)} {n : Nat} (hb : bells.length ≤ 6) (hs : st.length < 12) (hw : ws.length ≤ 3) (w0 : ws ≠ []) (hk : ∀ w ∈ ws, (idx bells w).isSome = true) :
    fns P (lu (lu n)) 16 [rdV bells rows at_ places st, .sh (.lst (.str (Str.ofString "shut") :: ws.map fun w => .str (SS w)))] = some (.sh (.bl true), [rdV bells rows at_ places (st ++ [(shW bells ws : Int)])]) := by
  have key : At (fun X => ∃ j2 j3 j4, X = some (Me.Fl.ret (.sh (.bl true)) [some (rdV bells rows at_ places (st ++ [(shW bells ws : Int)])), some (.sh (.lst (.str (Str.ofString "shut") :: ws.map fun w => .str (SS w)))), j2, j3, j4])) wt (exs (fns P (lu n)) b16 [some (rdV bells rows at_ places st), some (.sh (.lst (.str (Str.ofString "shut") :: ws.map fun w => .str (SS w)))), none, none, none]) := by
    have c1 : decide ((st.length : Int) = 12) = false := decide_eq_false (by omega)
    have c2 : decide (0 < (shW bells ws : Int)) = true := decide_eq_true (by have := shW_pos (bells := bells) w0; omega)
    have eb : (st ++ [(shW bells ws : Int)]).map PV.int = st.map PV.int ++ [.int (shW bells ws : Int)] := by rw [List.map_append]; rfl
    have ec := cut1 (x := .str (Str.ofString "shut")) (xs := ws.map fun w => .str (SS w))
    rw [b16]
    unfold rdV
    rw [eb]
    (sym => simp rds [c1, ec]; tactic =>
    walk_at "go"
    refine at_forL ws [] (fun w => .str (SS w)) (fun i e => ∃ j3 j4, e = [some (rdV bells rows at_ places st), some (.sh (.lst (.str (Str.ofString "shut") :: ws.map fun w => .str (SS w)))), some (.sh (.int ((shW bells (ws.take i) : Nat) : Int))), j3, j4]) rfl ⟨_, _, rfl⟩ ?_ ?_
    · rintro i e hi ⟨j3, j4, rfl⟩
      obtain ⟨k, ek⟩ := Option.isSome_iff_exists.mp (hk _ (getD_mem (d := []) hi))
      have e2 := named_k (L := bells) (a := ws.getD i []) (n := (n)) (by omega)
      rw [shW_next hi, ek]
      rw [ek] at e2
      have e2' : fv _ _ _ = some (.sh (.int (k : Int))) := e2
      have k6 := idx_lt ek
      have et : ((k : Int) + 1).toNat = k + 1 := by omega
      show At _ wt _
      simp only [Option.getD_some]
      generalize shW bells (ws.take i) = A at *
      generalize ws.getD i [] = w at *
      (sym => simp rds [e2', et]; tactic =>
      walk_at "go"
      refine at_nx ?_
      exact ⟨_, _, rfl⟩)
    · rintro e ⟨j3, j4, rfl⟩
      rw [List.take_length]
      generalize shW bells ws = A at *
      (sym => simp rds [c2]; tactic =>
      walk_at "go"
      exact at_end ⟨_, _, _, rfl⟩))
  obtain ⟨j2, j3, j4, e⟩ := at_start key
  show fns P (lu (lu n)) _ _ = _
  rw [rl16, e]
  rfl
include rdt cmA bls_flat rows_flat pls_flat ints_flat
theorem tk_bell {bells : List Bl} {rows : List (List (Int × Int))} {places : List (Int × Int)} {st : List Int} {a : List Nat} {r n : Nat} (h1 : bells.length < 6) (ha : nmO a) (hm : a ≠ cds "main") (hi : idx bells a = none) (r1 : 1 ≤ r) (r9 : r ≤ 9) :
    fns P (lu (lu (lu (lu (lu n))))) 12 [rdV bells rows (-1) places st, .sh (.lst [.str (Str.ofString "bell"), .str (SS a), .str (SS [48 + r])])] = some (.sh (.bl true), [rdV (bells ++ [(a, (r : Int))]) rows (-1) places st]) := by
  have et := tbell_k (rows := rows) (places := places) (st := st) (at_ := -1) (n := (lu (lu n))) h1 ha hm hi r1 r9
  have key : At (fun X => ∃ j2 j3 j4, X = some (Me.Fl.ret (.sh (.bl true)) [some (rdV (bells ++ [(a, (r : Int))]) rows (-1) places st), some (.sh (.lst [.str (Str.ofString "bell"), .str (SS a), .str (SS [48 + r])])), j2, j3, j4])) wt (exs (fns P (lu (lu (lu (lu n))))) b12 [some (rdV bells rows (-1) places st), some (.sh (.lst [.str (Str.ofString "bell"), .str (SS a), .str (SS [48 + r])])), none, none, none]) := by
    rw [b12]
    generalize SS [48 + r] = w3 at *
    (sym => simp rdt [et]; tactic =>
    walk_at "go"
    exact at_end ⟨_, _, _, rfl⟩)
  obtain ⟨j2, j3, j4, e⟩ := at_start key
  show fns P (lu (lu (lu (lu (lu n))))) _ _ = _
  rw [rl12, e]
  rfl
theorem tk_row0 {bells : List Bl} {rows : List (List (Int × Int))} {places : List (Int × Int)} {st : List Int} {n : Nat} (h1 : bells.length ≤ 6) :
    fns P (lu (lu (lu (lu (lu n))))) 12 [rdV bells rows (-1) places st, .sh (.lst [.str (Str.ofString "row"), .str (Str.ofString "main")])] = some (.sh (.bl true), [rdV bells rows 0 [] st]) := by
  have et := trow0_k (rows := rows) (places := places) (st := st) (n := (lu (lu (lu n)))) h1
  have key : At (fun X => ∃ j2 j3 j4, X = some (Me.Fl.ret (.sh (.bl true)) [some (rdV bells rows 0 [] st), some (.sh (.lst [.str (Str.ofString "row"), .str (Str.ofString "main")])), j2, j3, j4])) wt (exs (fns P (lu (lu (lu (lu n))))) b12 [some (rdV bells rows (-1) places st), some (.sh (.lst [.str (Str.ofString "row"), .str (Str.ofString "main")])), none, none, none]) := by
    rw [b12]
    (sym => simp rdt [et]; tactic =>
    walk_at "go"
    exact at_end ⟨_, _, _, rfl⟩)
  obtain ⟨j2, j3, j4, e⟩ := at_start key
  show fns P (lu (lu (lu (lu (lu n))))) _ _ = _
  rw [rl12, e]
  rfl
theorem tk_row {bells : List Bl} {rows : List (List (Int × Int))} {places : List (Int × Int)} {k n : Nat} (hk : k < bells.length) (h1 : bells.length ≤ 6) (hp : places ≠ []) (hr : rows.length ≤ 10) (hl : places.length ≤ 12) :
    fns P (lu (lu (lu (lu (lu n))))) 12 [rdV bells rows (k : Int) places [], .sh (.lst [.str (Str.ofString "row"), .str (SS (bells.getD k bl0).1)])] = some (.sh (.bl true), [rdV bells (rows ++ [places]) ((k : Int) + 1) [] []]) := by
  have et := trow_k (n := (lu (lu (lu n)))) hk h1 hp hr hl
  unfold rdV at et
  simp only [List.map_nil] at et
  have key : At (fun X => ∃ j2 j3 j4, X = some (Me.Fl.ret (.sh (.bl true)) [some (rdV bells (rows ++ [places]) ((k : Int) + 1) [] []), some (.sh (.lst [.str (Str.ofString "row"), .str (SS (bells.getD k bl0).1)])), j2, j3, j4])) wt (exs (fns P (lu (lu (lu (lu n))))) b12 [some (rdV bells rows (k : Int) places []), some (.sh (.lst [.str (Str.ofString "row"), .str (SS (bells.getD k bl0).1)])), none, none, none]) := by
    have c1 : decide ((k : Int) = -1) = false := decide_eq_false (by omega)
    rw [b12]
    generalize SS (bells.getD k bl0).1 = w2 at *
    (sym => simp rdt [c1, et]; tactic =>
    walk_at "go"
    exact at_end ⟨_, _, _, rfl⟩)
  obtain ⟨j2, j3, j4, e⟩ := at_start key
  show fns P (lu (lu (lu (lu (lu n))))) _ _ = _
  rw [rl12, e]
  rfl
theorem tk_shut {bells : List Bl} {rows : List (List (Int × Int))} {places : List (Int × Int)} {st : List Int} {k : Nat} {ws : List (List Nat)} {n : Nat} (hb : bells.length ≤ 6) (hs : st.length < 12) (hw : ws.length ≤ 3) (w0 : ws ≠ []) (hk : ∀ w ∈ ws, (idx bells w).isSome = true) :
    fns P (lu (lu (lu (lu (lu n))))) 12 [rdV bells rows (k : Int) places st, .sh (.lst (.str (Str.ofString "shut") :: ws.map fun w => .str (SS w)))] = some (.sh (.bl true), [rdV bells rows (k : Int) places (st ++ [(shW bells ws : Int)])]) := by
  have et := tshut_k (rows := rows) (places := places) (at_ := (k : Int)) (n := (lu (lu n))) hb hs hw w0 hk
  have key : At (fun X => ∃ j2 j3 j4, X = some (Me.Fl.ret (.sh (.bl true)) [some (rdV bells rows (k : Int) places (st ++ [(shW bells ws : Int)])), some (.sh (.lst (.str (Str.ofString "shut") :: ws.map fun w => .str (SS w)))), j2, j3, j4])) wt (exs (fns P (lu (lu (lu (lu n))))) b12 [some (rdV bells rows (k : Int) places st), some (.sh (.lst (.str (Str.ofString "shut") :: ws.map fun w => .str (SS w)))), none, none, none]) := by
    have c1 : decide ((k : Int) = -1) = false := decide_eq_false (by omega)
    rw [b12]
    (sym => simp rdt [c1, et]; tactic =>
    walk_at "go"
    exact at_end ⟨_, _, _, rfl⟩)
  obtain ⟨j2, j3, j4, e⟩ := at_start key
  show fns P (lu (lu (lu (lu (lu n))))) _ _ = _
  rw [rl12, e]
  rfl
/-! a text read -/
theorem tk_still {bells : List Bl} {rows : List (List (Int × Int))} {places : List (Int × Int)} {st : List Int} {k j n : Nat} (hl : places.length < 12) (hs : st.length ≤ 12) (j1 : 1 ≤ j) (j9 : j ≤ 9) :
    fns P (lu (lu (lu (lu (lu n))))) 12 [rdV bells rows (k : Int) places st, .sh (.lst ((wordsC (.still j)).map fun w => .str (SS w)))] = some (.sh (.bl true), [rdV bells rows (k : Int) (places ++ [((j : Int), orL st)]) st]) := tstill_k hl hs j1 j9
inductive St : RS → Ln → RS → Prop
  | bell {bells rows places st a r} (h1 : bells.length < 6) (ha : nmO a) (hm : a ≠ cds "main") (hi : idx bells a = none) (r1 : 1 ≤ r) (r9 : r ≤ 9) : St ⟨bells, rows, -1, places, st⟩ (.bell a r) ⟨bells ++ [(a, (r : Int))], rows, -1, places, st⟩
  | row0 {bells rows places st} (h1 : bells.length ≤ 6) : St ⟨bells, rows, -1, places, st⟩ (.row (cds "main")) ⟨bells, rows, 0, [], st⟩
  | row {bells rows places} {k : Nat} (hk : k < bells.length) (h1 : bells.length ≤ 6) (hp : places ≠ []) (hr : rows.length ≤ 10) (hl : places.length ≤ 12) (hn : nmO (bells.getD k bl0).1) : St ⟨bells, rows, (k : Int), places, []⟩ (.row (bells.getD k bl0).1) ⟨bells, rows ++ [places], (k : Int) + 1, [], []⟩
  | shut {bells rows places st} {k : Nat} {ws} (hb : bells.length ≤ 6) (hs : st.length < 12) (hw : ws.length ≤ 3) (w0 : ws ≠ []) (hn : ∀ w ∈ ws, nmO w) (hk : ∀ w ∈ ws, (idx bells w).isSome = true) : St ⟨bells, rows, (k : Int), places, st⟩ (.shut ws) ⟨bells, rows, (k : Int), places, st ++ [(shW bells ws : Int)]⟩
  | opn {bells rows places st} {k : Nat} {x : Int} : St ⟨bells, rows, (k : Int), places, st ++ [x]⟩ .opn ⟨bells, rows, (k : Int), places, st⟩
  | still {bells rows places st} {k j : Nat} (hl : places.length < 12) (hs : st.length ≤ 12) (j1 : 1 ≤ j) (j9 : j ≤ 9) : St ⟨bells, rows, (k : Int), places, st⟩ (.still j) ⟨bells, rows, (k : Int), places ++ [((j : Int), orL st)], st⟩
theorem St.ok {s t : RS} {l : Ln} (h : St s l t) : lnO l := by
  cases h with
  | bell h1 ha hm hi r1 r9 => exact ⟨ha, r1, r9⟩
  | row0 h1 => exact ⟨by decide, by decide, by decide⟩
  | row hk h1 hp hr hl hn => exact hn
  | shut hb hs hw w0 hn hk => exact ⟨hw, List.length_pos_iff.mpr w0, hn⟩
  | opn => trivial
  | still hl hs j1 j9 => exact ⟨j1, j9⟩
theorem main_s : Str.ofString "main" = SS (cds "main") := (S_tl _).symm
theorem take_k {s t : RS} {l : Ln} {n : Nat} (h : St s l t) : fns P (lu (lu (lu (lu (lu n))))) 12 [rdS s, .sh (.lst ((wordsC l).map fun w => .str (SS w)))] = some (.sh (.bl true), [rdS t]) := by
  cases h with
  | bell h1 ha hm hi r1 r9 => exact tk_bell h1 ha hm hi r1 r9
  | row0 h1 =>
    rename_i bells rows places st
    have e := tk_row0 (rows := rows) (places := places) (st := st) (n := n) h1
    rw [main_s] at e
    exact e
  | row hk h1 hp hr hl hn => exact tk_row hk h1 hp hr hl
  | shut hb hs hw w0 hn hk => exact tk_shut hb hs hw w0 hk
  | opn => exact topen_k
  | still hl hs j1 j9 => exact tk_still hl hs j1 j9
inductive Rn : RS → List Ln → RS → Prop
  | nil {s} : Rn s [] s
  | cons {s t u l ls} (h : St s l t) (h' : Rn t ls u) : Rn s (l :: ls) u
theorem Rn.app {s t u : RS} {a b : List Ln} (h : Rn s a t) (h' : Rn t b u) : Rn s (a ++ b) u := by
  induction h with
  | nil => exact h'
  | cons x _ ih => exact .cons x (ih h')
theorem Rn.one {s t : RS} {l : Ln} (h : St s l t) : Rn s [l] t := .cons h .nil
noncomputable def rw8P (q : (List Nat × Int) × List (Int × Int)) : PV := .tup [.str (SS q.1.1), .int q.1.2, rowP q.2]
noncomputable def prg8 (bells : List Bl) (rows : List (List (Int × Int))) : PV := .tup [.tup [], .tup ((List.range (bells.length + 1)).map fun k => rw8P (((cds "main", 0) :: bells).getD k bl0, rows.getD k []))]
theorem rw8P_flat {q : (List Nat × Int) × List (Int × Int)} : (rw8P q).flat = true := by
  show (true && (true && ((rowP q.2).flat && true))) = true
  rw [rowP_flat]; rfl
theorem prg8_flat {bells : List Bl} {rows : List (List (Int × Int))} : (prg8 bells rows).flat = true := by
  unfold prg8
  show (true && (PV.flats _ && true)) = true
  rw [flats_map (fun _ => rw8P_flat)]; rfl
include edm bls_flat rows_flat pls_flat ints_flat
theorem ended_k {bells : List Bl} {rows : List (List (Int × Int))} {places : List (Int × Int)} {n : Nat} (hp : places ≠ []) (hl : places.length ≤ 12) (hb : bells.length ≤ 6) : fv (fns P (lu n)) 17 [rdW bells rows (bells.length : Int) places []] = some (.sh (.bl true)) := by
  have c4 : decide ((0 : Int) < (places.length : Int)) = true := decide_eq_true (by have := List.length_pos_iff.mpr hp; omega)
  rw [r17, b17]
  refine at_eq ?_
  unfold rdW
  (sym => simp edm [c4]; tactic =>
  walk_at "go"
  exact at_rfl rfl)
theorem row_at {L : List (List (Int × Int))} {i : Nat} (h : i < L.length) : atI (L.map rowP) (i : Int) = some (rowP (L.getD i [])) := by rw [atI_map rowP L [] _ (by omega) (by omega), Int.toNat_natCast]
theorem made_k {bells : List Bl} {rows : List (List (Int × Int))} {places : List (Int × Int)} {n : Nat} (hr : rows.length = bells.length) (hb : bells.length ≤ 6) (hl : places.length ≤ 12) : fv (fns P (lu n)) 18 [rdW bells rows (bells.length : Int) places []] = some (.sh (prg8 bells (rows ++ [places]))) := by
  have eh : PV.tup [.str (Str.ofString "main"), .int 0] :: bells.map blP = ((cds "main", 0) :: bells).map blP := by rw [main_s]; rfl
  have er : rows.map rowP ++ [PV.tup (places.map plP)] = (rows ++ [places]).map rowP := by rw [List.map_append]; rfl
  have l1 : ((cds "main", (0 : Int)) :: bells).length = bells.length + 1 := rfl
  have l2 : (rows ++ [places]).length = bells.length + 1 := by rw [List.length_append, hr]; rfl
  rw [r18, b18]
  refine at_eq ?_
  unfold rdW prg8
  generalize ((cds "main", (0 : Int)) :: bells) = H at *
  generalize rows ++ [places] = R at *
  (sym => simp edm [eh, er]; tactic =>
  walk_at "go"
  refine at_comp (List.range (bells.length + 1)) (fun (k : Nat) => .int (k : Int)) (fun k => rw8P (H.getD k bl0, R.getD k [])) (by rw [← l1]; exact rangeL_zero _) (fun k hk => ?_) (by rw [List.length_range]; omega) ?_
  · have hk' := List.mem_range.mp hk
    have e1 := bl_at (L := H) (i := k) (by omega)
    have e2 := row_at (L := R) (i := k) (by omega)
    (sym => simp edm [e1, e2]; tactic =>
    walk_at "go"
    exact at_rfl rfl)
  (sym => simp edm; tactic =>
  walk_at "go"
  exact at_rfl rfl))
theorem enum_g {α : Type} {g : α → PV} {L : List α} (d : α) : enumL (L.map g) = (List.range L.length).map fun (k : Nat) => PV.tup [.int (k : Int), g (L.getD k d)] := by
  unfold enumL
  rw [List.length_map]
  refine List.ext_getElem? fun k => ?_
  rw [List.getElem?_zipWith, List.getElem?_map, List.getElem?_map]
  by_cases h : k < L.length
  · rw [List.getElem?_range h, List.getElem?_eq_getElem h]
    show some (PV.tup [.int (k : Int), g L[k]]) = some (PV.tup [.int (k : Int), g (L.getD k d)])
    rw [List.getD_eq_getElem?_getD, List.getElem?_eq_getElem h]
    rfl
  · rw [List.getElem?_eq_none (by rw [List.length_range]; omega), List.getElem?_eq_none (by omega)]
    rfl
noncomputable def lnP (l : Ln) : PV := .str (txt l)
theorem l_bl : (Str.ofString " ").length = 1 := rfl
include rdq l_bl prg8_flat bls_flat rows_flat pls_flat ints_flat
theorem read_k {ls : List Ln} {bells : List Bl} {rows : List (List (Int × Int))} {places : List (Int × Int)} {n : Nat} (hr : Rn rs0 ls ⟨bells, rows, (bells.length : Int), places, []⟩) (hp : places ≠ []) (hl : places.length ≤ 12) (hb : bells.length ≤ 6) (h2 : rows.length = bells.length) (hs : ls.length ≤ 400) : fv (fns P (lu (lu (lu (lu (lu (lu n))))))) 19 [.lst (ls.map lnP)] = some (.sh (prg8 bells (rows ++ [places]))) := by
  have ei := rinit_k (n := (lu (lu (lu (lu n)))))
  have ee := enum_g (g := lnP) (L := ls) .opn
  rw [r19, b19]
  refine at_eq ?_
  (sym => simp rdq [ei, ee]; tactic =>
  walk_at "go"
  refine at_forRf ls.length (fun (k : Nat) => .tup [.int (k : Int), lnP (ls.getD k .opn)]) (fun i e => ∃ s j2 j3, Rn s (ls.drop i) ⟨bells, rows, (bells.length : Int), places, []⟩ ∧ e = [some (.sh (.lst (ls.map lnP))), some (rdS s), j2, j3]) rfl ⟨rs0, _, _, hr, rfl⟩ ?_ ?_
  · rintro i e hi ⟨s, j2, j3, hR, rfl⟩
    have ed : ls.drop i = ls.getD i .opn :: ls.drop (i + 1) := by rw [List.getD_eq_getElem?_getD, List.getElem?_eq_getElem hi]; exact List.drop_eq_getElem_cons hi
    rw [ed] at hR
    generalize ls.getD i .opn = l at *
    cases hR with
    | cons h h' =>
      rename_i t
      have tk := take_k (n := (n)) h
      have es := split_txt h.ok
      have el := txt_len h.ok
      have ew : ((wordsC l).map SS).map PV.str = (wordsC l).map fun w => .str (SS w) := by rw [List.map_map]; rfl
      show At _ wt _
      unfold lnP
      simp only [rdS, rdV] at tk ⊢
      generalize txt l = x at *
      generalize (wordsC l).map (fun w => PV.str (SS w)) = W at *
      (sym => simp rdq [es, ew, tk]; tactic =>
      walk_at "go"
      refine at_nx ?_
      exact ⟨t, _, _, h', rfl⟩)
  · rintro e ⟨s, j2, j3, hR, rfl⟩
    rw [List.drop_length] at hR
    cases hR
    simp only [rdS, rdV]
    have e1 := ended_k (rows := rows) (n := (lu (lu (lu (lu n))))) hp hl hb
    have e2 := made_k (n := (lu (lu (lu (lu n))))) h2 hb hl
    unfold rdW at e1 e2
    simp only [List.map_nil] at e1 e2
    (sym => simp rdq [e1, e2]; tactic =>
    walk_at "go"
    exact at_rfl rfl))
/-! names -/
noncomputable def NmO (N : List (List Nat)) : Prop := (∀ a ∈ N, nmO a) ∧ N.Nodup

noncomputable def ch1 (c : Nat) : Str := ⟨#[c]⟩

noncomputable def lc (i : Int) : Nat := LET.getD i.toNat 0
theorem lc_in {i : Int} (h : 0 ≤ i ∧ i < 26) : lc i ∈ LET := by
  unfold lc
  have : i.toNat < LET.length := by show i.toNat < 26; omega
  rw [List.getD_eq_getElem?_getD, List.getElem?_eq_getElem this]
  exact List.getElem_mem this
theorem lc_inj {i j : Int} (hi : 0 ≤ i ∧ i < 26) (hj : 0 ≤ j ∧ j < 26) (h : lc i = lc j) : i = j := by
  have e : ∀ k : Nat, k < 26 → LET.getD k 0 = k + 97 := by decide
  unfold lc at h
  rw [e _ (by omega), e _ (by omega)] at h
  omega
theorem let_at {i : Int} : ix2 (.str (Str.ofString "abcdefghijklmnopqrstuvwxyz")) (.int i) = gx (0 ≤ i ∧ i < 26) (fun _ => ix2 (.str (Str.ofString "abcdefghijklmnopqrstuvwxyz")) (.int i)) wt (some (.str (ch1 (lc i)))) := gx_of fun h => by
  rw [let_s]
  show (if (SS LET).length ≤ 16777216 then (atI LET i).map _ else none) = _
  rw [if_pos (by rw [len_S]; decide)]
  have hl : LET.length = 26 := by decide
  unfold atI ixN
  rw [if_pos h.1, if_pos (by rw [hl]; omega), Option.bind_some]
  have : i.toNat < LET.length := by rw [hl]; omega
  unfold lc
  rw [List.getD_eq_getElem?_getD, List.getElem?_eq_getElem this]
  rfl
theorem join_1 : ∀ L : List Nat, TL.joinL [] (L.map fun c => [c]) = L
  | [] => rfl
  | [c] => rfl
  | c :: d :: L => by
    have := join_1 (d :: L)
    show [c] ++ ([] ++ TL.joinL [] ((d :: L).map fun c => [c])) = _
    rw [this]
    rfl
theorem empty_s : Str.ofString "" = SS [] := by rfl
theorem join_S1 {L : List Nat} : Txt.join (Str.ofString "") (L.map ch1) = SS L := by
  rw [empty_s, show L.map ch1 = (L.map fun c => [c]).map SS by rw [List.map_map]; rfl, SX.join_S, join_1]
theorem sum_1 : ∀ L : List Nat, ((L.map ch1).map fun s => s.length).sum = L.length
  | [] => rfl
  | c :: L => by
    rw [List.map_cons, List.map_cons, List.sum_cons, sum_1 L, List.length_cons]
    show 1 + L.length = _
    omega
theorem sum_2 {L : List Nat} : (List.map Str.length (L.map ch1)).sum = L.length := sum_1 L
theorem as_1 {L : List Nat} : asStrs (L.map fun c => PV.str (ch1 c)) = some (L.map ch1) := by
  rw [show (L.map fun c => PV.str (ch1 c)) = (L.map ch1).map PV.str by rw [List.map_map]; rfl, asStrs_map]
theorem len_e : (Str.ofString "").length = 0 := rfl
theorem cut_to {α : Type} {g : α → PV} {L : List α} {k : Nat} (h : k ≤ L.length) : cutP (L.map g) none (some (k : Int)) = (L.take k).map g := by
  unfold cutP
  rw [HT.sIx_none, HT.sIx_nat, List.length_map, Nat.min_eq_left h, List.drop_zero, Nat.sub_zero, List.map_take]
theorem cut_from {α : Type} {g : α → PV} {L : List α} {k : Nat} (h : k ≤ L.length) : cutP (L.map g) (some (k : Int)) none = (L.drop k).map g := by
  unfold cutP
  rw [HT.sIx_none, HT.sIx_nat, List.length_map, Nat.min_eq_left h, List.map_drop]
  exact List.take_of_length_le (by rw [List.length_drop, List.length_map]; omega)
theorem nodup_len {m : Nat} {f : Nat → List Nat} (h : ∀ k, k < m → (f k).length = k + 1) : ((List.range m).map f).Nodup := by
  refine List.Pairwise.map f (R := fun a b : Nat => a ≠ b ∧ a < m ∧ b < m) (fun a b hab e => ?_) ?_
  · have := congrArg List.length e
    rw [h a hab.2.1, h b hab.2.2] at this
    exact hab.1 (by omega)
  · refine List.Pairwise.imp_of_mem (R := fun a b => a ≠ b) (fun {a b} ha hb hab => ⟨hab, List.mem_range.mp ha, List.mem_range.mp hb⟩) List.nodup_range
theorem nodup_inj {m : Nat} {f : Nat → List Nat} (h : ∀ a b, a < m → b < m → f a = f b → a = b) : ((List.range m).map f).Nodup := by
  refine List.Pairwise.map f (R := fun a b : Nat => a ≠ b ∧ a < m ∧ b < m) (fun a b hab e => hab.1 (h a b hab.2.1 hab.2.2 e)) ?_
  exact List.Pairwise.imp_of_mem (R := fun a b => a ≠ b) (fun {a b} ha hb hab => ⟨hab, List.mem_range.mp ha, List.mem_range.mp hb⟩) List.nodup_range
noncomputable def W0 : List (List Nat) := [cds "row", cds "open", cds "here", cds "main", cds "is", cds "box", cds "plus", cds "by"]
theorem w0_s : [PV.str (Str.ofString "row"), .str (Str.ofString "open"), .str (Str.ofString "here"), .str (Str.ofString "main"), .str (Str.ofString "is"), .str (Str.ofString "box"), .str (Str.ofString "plus"), .str (Str.ofString "by")] = (W0.map fun a => PV.str (SS a)) := by
  have e : ∀ s : String, PV.str (Str.ofString s) = .str (SS (cds s)) := fun s => by rw [show SS (cds s) = Str.ofString s from S_tl _]
  simp only [e]
  rfl
theorem w0_ok {m : Nat} : NmO (W0.take m) := by
  refine ⟨fun a ha => ?_, List.Nodup.sublist (List.take_sublist m W0) (by decide)⟩
  have : ∀ a ∈ W0, nmO a := by
    intro a ha
    simp only [W0, List.mem_cons, List.not_mem_nil, or_false] at ha
    rcases ha with rfl | rfl | rfl | rfl | rfl | rfl | rfl | rfl <;> exact ⟨by decide, by decide, by decide⟩
  exact this a (List.mem_of_mem_take ha)
theorem nm_pre {C : List Nat} {m : Nat} (hC : C.length = 8) (hL : ∀ c ∈ C, c ∈ LET) (hm : m ≤ 6) : NmO ((List.range m).map fun k => C.take (k + 1)) := by
  refine ⟨fun a ha => ?_, nodup_len fun k hk => by rw [List.length_take]; omega⟩
  obtain ⟨k, hk, rfl⟩ := List.mem_map.mp ha
  have := List.mem_range.mp hk
  exact ⟨by rw [List.length_take]; omega, by rw [List.length_take]; omega, fun c hc => hL c (List.mem_of_mem_take hc)⟩
theorem nm_suf {C : List Nat} {m : Nat} (hC : C.length = 8) (hL : ∀ c ∈ C, c ∈ LET) (hm : m ≤ 6) : NmO ((List.range m).map fun k => C.drop (7 - k)) := by
  refine ⟨fun a ha => ?_, nodup_len fun k hk => by rw [List.length_drop]; omega⟩
  obtain ⟨k, hk, rfl⟩ := List.mem_map.mp ha
  have := List.mem_range.mp hk
  exact ⟨by rw [List.length_drop]; omega, by rw [List.length_drop]; omega, fun c hc => hL c (List.mem_of_mem_drop hc)⟩
theorem nm_one {C : List Nat} {m s p : Nat} {d : Int} (hC : C.length = 8) (hL : ∀ c ∈ C, c ∈ LET) (hm : m ≤ 6) (s1 : 1 ≤ s) (s8 : s ≤ 8) (hp : p < s) (hd : 0 ≤ d ∧ d < 26) : NmO ((List.range m).map fun (k : Nat) => (C.take s).set p (lc ((d + 3 * (k : Int)).fmod 26))) := by
  have ls : (C.take s).length = s := by rw [List.length_take]; omega
  have lf : ∀ k : Nat, 0 ≤ (d + 3 * (k : Int)).fmod 26 ∧ (d + 3 * (k : Int)).fmod 26 < 26 := fun k => ⟨Int.fmod_nonneg_of_pos _ (by decide), Int.fmod_lt_of_pos _ (by decide)⟩
  refine ⟨fun a ha => ?_, nodup_inj fun a b ha hb e => ?_⟩
  · obtain ⟨k, hk, rfl⟩ := List.mem_map.mp ha
    refine ⟨by rw [List.length_set, ls]; exact s1, by rw [List.length_set, ls]; exact s8, fun c hc => ?_⟩
    rcases List.mem_or_eq_of_mem_set hc with h | rfl
    · exact hL c (List.mem_of_mem_take h)
    · exact lc_in (lf k)
  · have h1 : ((C.take s).set p (lc ((d + 3 * (a : Int)).fmod 26)))[p]? = ((C.take s).set p (lc ((d + 3 * (b : Int)).fmod 26)))[p]? := by rw [e]
    rw [List.getElem?_set_self (by omega), List.getElem?_set_self (by omega)] at h1
    have h2 := lc_inj (lf a) (lf b) (Option.some.inj h1)
    rw [Int.fmod_eq_emod_of_nonneg _ (by decide), Int.fmod_eq_emod_of_nonneg _ (by decide)] at h2
    omega
theorem nm_x {m : Nat} (hm : m ≤ 6) : NmO ((List.range m).map fun k => List.replicate (k + 1) 120) := by
  refine ⟨fun a ha => ?_, nodup_len fun k hk => List.length_replicate⟩
  obtain ⟨k, hk, rfl⟩ := List.mem_map.mp ha
  have := List.mem_range.mp hk
  refine ⟨by rw [List.length_replicate]; omega, by rw [List.length_replicate]; omega, fun c hc => ?_⟩
  rw [(List.mem_replicate.mp hc).2]
  decide
/-! the names that the law draws -/
include nam draw_k let_at
theorem names_ex {ns : List Int} {m n : Nat} (h1 : 1 ≤ m) (h6 : m ≤ 6) : At (fun X => ∃ N : List (List Nat), N.length = m ∧ NmO N ∧ X = some (.own (N.map fun a => PV.str (SS a)))) wt (fv (fns P (lu (lu n))) 22 [.lst (ns.map PV.int), .int 1, .int (m : Int)]) := by
  rw [r22, b22]
  have d8 := draw_in ns 9 4 (by decide)
  obtain ⟨sty, es⟩ : ∃ w, draw ns 9 4 = w := ⟨_, rfl⟩
  rw [es] at d8
  (sym => simp nam; tactic =>
  walk_at "go"
  refine at_comp (List.range 8) (fun (k : Nat) => .int (k : Int)) (fun (k : Nat) => .str (ch1 (lc (draw ns (1 + (k : Int)) 26)))) (by exact rangeL_zero 8) (fun k hk => ?_) (by decide) ?_
  · have hk' := List.mem_range.mp hk
    (sym => simp nam; tactic =>
    walk_at "go"
    exact at_rfl rfl)
  obtain ⟨C, eC⟩ : ∃ C, (List.range 8).map (fun (k : Nat) => lc (draw ns (1 + (k : Int)) 26)) = C := ⟨_, rfl⟩
  have lC : C.length = 8 := by rw [← eC, List.length_map, List.length_range]
  have hC : ∀ c ∈ C, c ∈ LET := fun c hc => by
    rw [← eC] at hc
    obtain ⟨k, _, rfl⟩ := List.mem_map.mp hc
    exact lc_in (draw_in ns _ 26 (by decide))
  rw [show ((List.range 8).map fun (k : Nat) => PV.str (ch1 (lc (draw ns (1 + (k : Int)) 26)))) = C.map fun c => PV.str (ch1 c) by rw [← eC, List.map_map]; rfl]
  have ec0 : cutP [PV.str (Str.ofString "row"), .str (Str.ofString "open"), .str (Str.ofString "here"), .str (Str.ofString "main"), .str (Str.ofString "is"), .str (Str.ofString "box"), .str (Str.ofString "plus"), .str (Str.ofString "by")] none (some (m : Int)) = (W0.take m).map fun a => PV.str (SS a) := by rw [w0_s, cut_to (show m ≤ W0.length by show m ≤ 8; omega)]
  have w4 : sty = 0 ∨ sty = 1 ∨ sty = 2 ∨ sty = 3 := by omega
  rcases w4 with rfl | rfl | rfl | rfl
  ·
    (sym => simp nam [es, ec0]; tactic =>
    walk_at "go"
    exact at_end ⟨W0.take m, by rw [List.length_take]; show min m 8 = m; omega, w0_ok, rfl⟩)
  ·
    (sym => simp nam [es, ec0]; tactic =>
    walk_at "go"
    refine at_comp (List.range m) (fun (k : Nat) => .int (k : Int)) (fun (k : Nat) => .str (SS (C.take (k + 1)))) (by exact rangeL_zero m) (fun k hk => ?_) (by rw [List.length_range]; omega) ?_
    · have hk' := List.mem_range.mp hk
      have ec : cutP (C.map fun c => PV.str (ch1 c)) none (some ((k : Int) + 1)) = (C.take (k + 1)).map fun c => PV.str (ch1 c) := by
        rw [show (k : Int) + 1 = ((k + 1 : Nat) : Int) by omega]; exact cut_to (by omega)
      generalize hL : C.take (k + 1) = L at *
      have lL : L.length ≤ 8 := by rw [← hL, List.length_take]; omega
      have ea := as_1 (L := L)
      have e2 := sum_2 (L := L)
      have ej := join_S1 (L := L)
      (sym => simp nam [ec, ea, e2, ej, len_e]; tactic =>
      walk_at "go"
      exact at_rfl rfl)
    rw [show ((List.range m).map fun (k : Nat) => PV.str (SS (C.take (k + 1)))) = ((List.range m).map fun k => C.take (k + 1)).map fun a => PV.str (SS a) by rw [List.map_map]; rfl]
    (sym => simp nam [es]; tactic =>
    walk_at "go"
    exact at_end ⟨_, by rw [List.length_map, List.length_range], nm_pre lC hC h6, rfl⟩))
  ·
    (sym => simp nam [es, ec0]; tactic =>
    walk_at "go"
    refine at_comp (List.range m) (fun (k : Nat) => .int (k : Int)) (fun (k : Nat) => .str (SS (C.drop (7 - k)))) (by exact rangeL_zero m) (fun k hk => ?_) (by rw [List.length_range]; omega) ?_
    · have hk' := List.mem_range.mp hk
      have ec : cutP (C.map fun c => PV.str (ch1 c)) (some (7 - (k : Int))) none = (C.drop (7 - k)).map fun c => PV.str (ch1 c) := by
        rw [show 7 - (k : Int) = ((7 - k : Nat) : Int) by omega]; exact cut_from (by omega)
      generalize hL : C.drop (7 - k) = L at *
      have lL : L.length ≤ 8 := by rw [← hL, List.length_drop]; omega
      have ea := as_1 (L := L)
      have e2 := sum_2 (L := L)
      have ej := join_S1 (L := L)
      (sym => simp nam [ec, ea, e2, ej, len_e]; tactic =>
      walk_at "go"
      exact at_rfl rfl)
    rw [show ((List.range m).map fun (k : Nat) => PV.str (SS (C.drop (7 - k)))) = ((List.range m).map fun k => C.drop (7 - k)).map fun a => PV.str (SS a) by rw [List.map_map]; rfl]
    (sym => simp nam [es]; tactic =>
    walk_at "go"
    exact at_end ⟨_, by rw [List.length_map, List.length_range], nm_suf lC hC h6, rfl⟩))
  · have d9 := draw_in ns 10 8 (by decide)
    obtain ⟨s, e9⟩ : ∃ s : Nat, 1 + draw ns 10 8 = (s : Int) := ⟨(1 + draw ns 10 8).toNat, by omega⟩
    have d10 := draw_in ns 11 (s : Int) (by omega)
    obtain ⟨p, e10⟩ : ∃ p : Nat, draw ns 11 (s : Int) = (p : Int) := ⟨(draw ns 11 (s : Int)).toNat, by omega⟩
    have d11 := draw_in ns 12 26 (by decide)
    have s1 : 1 ≤ s := by omega
    have s8 : s ≤ 8 := by omega
    have hp : p < s := by omega
    have ec : cutP (C.map fun c => PV.str (ch1 c)) none (some (s : Int)) = (C.take s).map fun c => PV.str (ch1 c) := cut_to (by omega)
    have lt : (C.take s).length = s := by rw [List.length_take]; omega
    (sym => simp nam [es, ec0, e9, e10]; tactic =>
    walk_at "go"
    refine at_forRf m (fun (k : Nat) => .int (k : Int)) (fun i e => ∃ j9 j10 : Option Sl, e = [some (.sh (.lst (ns.map PV.int))), some (.sh (.int 1)), some (.sh (.int (m : Int))), some (.sh (.str (Str.ofString "abcdefghijklmnopqrstuvwxyz"))), some (.own (C.map fun c => PV.str (ch1 c))), some (.sh (.int 3)), some (.own (((List.range i).map fun (k : Nat) => (C.take s).set p (lc ((draw ns 12 26 + 3 * (k : Int)).fmod 26))).map fun a => PV.str (SS a))), some (.sh (.int (s : Int))), some (.sh (.int (p : Int))), j9, j10]) (by exact rangeL_zero m) ⟨_, _, rfl⟩ ?_ ?_
    · rintro i e hi ⟨j9, j10, rfl⟩
      have lf : 0 ≤ (draw ns 12 26 + 3 * (i : Int)).fmod 26 ∧ (draw ns 12 26 + 3 * (i : Int)).fmod 26 < 26 := ⟨Int.fmod_nonneg_of_pos _ (by decide), Int.fmod_lt_of_pos _ (by decide)⟩
      generalize hT : C.take s = T at *
      have st : (T.map fun c => PV.str (ch1 c)).set p (.str (ch1 (lc ((draw ns 12 26 + 3 * (i : Int)).fmod 26)))) = (T.set p (lc ((draw ns 12 26 + 3 * (i : Int)).fmod 26))).map fun c => PV.str (ch1 c) := by rw [List.map_set]
      have ei : ixN T.length (p : Int) = some p := by
        unfold ixN
        rw [if_pos (by omega), if_pos (by omega)]; rfl
      generalize hL : T.set p (lc ((draw ns 12 26 + 3 * (i : Int)).fmod 26)) = L at *
      have lL : L.length ≤ 8 := by rw [← hL, List.length_set]; omega
      have ea := as_1 (L := L)
      have e2 := sum_2 (L := L)
      have ej := join_S1 (L := L)
      have er : ((List.range (i + 1)).map fun (k : Nat) => T.set p (lc ((draw ns 12 26 + 3 * (k : Int)).fmod 26))).map (fun a => PV.str (SS a)) = ((List.range i).map fun (k : Nat) => T.set p (lc ((draw ns 12 26 + 3 * (k : Int)).fmod 26))).map (fun a => PV.str (SS a)) ++ [PV.str (SS L)] := by
        rw [List.range_succ, List.map_append, List.map_append, ← hL]; rfl
      rw [er]
      (sym => simp nam [ec, ea, e2, ej, len_e, st, ei]; tactic =>
      walk_at "go"
      exact at_nx ⟨_, _, rfl⟩)
    · rintro e ⟨j9, j10, rfl⟩
      (sym => simp nam; tactic =>
      walk_at "go"
      exact at_end ⟨_, by rw [List.length_map, List.length_range], nm_one lC hC h6 s1 s8 hp d11, rfl⟩)))
/-! the law's lines -/
theorem fig_s {r : Nat} (h1 : 1 ≤ r) (h9 : r ≤ 9) : Str.ofString (toString (r : Int)) = SS [48 + r] := by
  rcases (show r = 1 ∨ r = 2 ∨ r = 3 ∨ r = 4 ∨ r = 5 ∨ r = 6 ∨ r = 7 ∨ r = 8 ∨ r = 9 by omega) with rfl | rfl | rfl | rfl | rfl | rfl | rfl | rfl | rfl <;> rfl
theorem tx_bell {a : List Nat} {r : Nat} : Str.ofString "bell " ++ SS a ++ Str.ofString " " ++ SS [48 + r] = txt (.bell a r) := by
  rw [show Str.ofString "bell " = SS (cds "bell" ++ [32]) by rfl, bl_s, SX.S_cat, SX.S_cat, SX.S_cat, List.append_assoc, List.append_assoc, List.append_assoc]
  rfl
theorem tx_row {a : List Nat} : Str.ofString "row " ++ SS a = txt (.row a) := by
  rw [show Str.ofString "row " = SS (cds "row" ++ [32]) by rfl, SX.S_cat, List.append_assoc]
  rfl
theorem tx_shut1 {a : List Nat} : Str.ofString "shut " ++ SS a = txt (.shut [a]) := by
  rw [show Str.ofString "shut " = SS (cds "shut" ++ [32]) by rfl, SX.S_cat, List.append_assoc]
  rfl
theorem tx_shut {ws : List (List Nat)} (h : ws ≠ []) : Str.ofString "shut " ++ Txt.join (Str.ofString " ") (ws.map SS) = txt (.shut ws) := by
  rw [show Str.ofString "shut " = SS (cds "shut" ++ [32]) by rfl, bl_s, SX.join_S, SX.S_cat, List.append_assoc]
  cases ws with
  | nil => exact (h rfl).elim
  | cons w ws => rfl
theorem tx_open : Str.ofString "open" = txt .opn := by rfl
theorem tx_still {r : Nat} : Str.ofString "still " ++ SS [48 + r] = txt (.still r) := by
  rw [show Str.ofString "still " = SS (cds "still" ++ [32]) by rfl, SX.S_cat, List.append_assoc]
  rfl
theorem tx_still9 : Str.ofString "still 9" = txt (.still 9) := by rfl
theorem l_shut : (Str.ofString "shut ").length = 5 := rfl
theorem l_bell : (Str.ofString "bell ").length = 5 := rfl
theorem l_row : (Str.ofString "row ").length = 4 := rfl
theorem l_still : (Str.ofString "still ").length = 6 := rfl
theorem app_len (a b : Str) : (a ++ b).length = a.length + b.length := Str.length_append a b
theorem len_2 {c : Nat} : (SS [c]).length = 1 := rfl
theorem nm_at {N : List (List Nat)} {i : Nat} (h : i < N.length) : atI (N.map fun a => PV.str (SS a)) (i : Int) = some (.str (SS (N.getD i []))) := by rw [atI_map (fun a => PV.str (SS a)) N [] _ (by omega) (by omega), Int.toNat_natCast]
theorem sum_ws : ∀ {ws : List (List Nat)}, (∀ w ∈ ws, nmO w) → (List.map Str.length (ws.map SS)).sum ≤ 8 * ws.length
  | [], _ => Nat.zero_le _
  | w :: ws, h => by
    have h1 := (h w List.mem_cons_self).2.1
    have := sum_ws (ws := ws) fun x hx => h x (List.mem_cons_of_mem _ hx)
    rw [List.map_cons, List.map_cons, List.sum_cons, List.length_cons, len_S]; omega
theorem as_2 {L : List (List Nat)} : asStrs (L.map fun a => PV.str (SS a)) = some (L.map SS) := by
  rw [show (L.map fun a => PV.str (SS a)) = (L.map SS).map PV.str by rw [List.map_map]; rfl, asStrs_map]
/-- the bells have the names -/
structure BN (B : List Bl) (N : List (List Nat)) : Prop where
  l : B.length = N.length
  o : NmO N
  g : ∀ i, i < N.length → (B.getD i bl0).1 = N.getD i []
  l1 : 1 ≤ N.length
  l6 : N.length ≤ 6
theorem nd_inj {N : List (List Nat)} (h : N.Nodup) {i j : Nat} (hi : i < N.length) (hj : j < N.length) (e : N.getD i [] = N.getD j []) : i = j := by
  rw [List.getD_eq_getElem?_getD, List.getD_eq_getElem?_getD, List.getElem?_eq_getElem hi, List.getElem?_eq_getElem hj] at e
  rcases Nat.lt_trichotomy i j with q | q | q
  · exact ((List.pairwise_iff_getElem.mp h i j hi hj q) e).elim
  · exact q
  · exact ((List.pairwise_iff_getElem.mp h j i hj hi q) e.symm).elim
theorem BN.idx {B : List Bl} {N : List (List Nat)} (h : BN B N) {i : Nat} (hi : i < N.length) : idx B (N.getD i []) = some i := by
  have hb : i < B.length := by rw [h.l]; exact hi
  have gi : ∀ j (hj : j < B.length), B[j].1 = N.getD j [] := fun j hj => by
    have := h.g j (by rw [← h.l]; exact hj)
    rw [List.getD_eq_getElem?_getD, List.getElem?_eq_getElem hj] at this
    exact this
  unfold Pr.idx
  rw [List.findIdx?_eq_some_iff_getElem]
  refine ⟨hb, decide_eq_true (gi i hb), fun j hj => ?_⟩
  have hj' : j < B.length := by omega
  simp only [decide_eq_true_eq]
  rw [gi j hj']
  intro e
  have := nd_inj h.o.2 (i := j) (j := i) (by rw [← h.l]; exact hj') hi e
  omega
theorem shW_K {B : List Bl} {N : List (List Nat)} (h : BN B N) : ∀ (K : List Nat) (a : Nat), (∀ k ∈ K, k < N.length) → (K.map fun k => N.getD k []).foldl (fun a w => a ||| 2 ^ ((Pr.idx B w).getD 0 + 1)) a = K.foldl (fun a k => a ||| 2 ^ (k + 1)) a
  | [], _, _ => rfl
  | k :: K, a, hk => by
    rw [List.map_cons, List.foldl_cons, List.foldl_cons, h.idx (hk k List.mem_cons_self)]
    exact shW_K h K _ fun x hx => hk x (List.mem_cons_of_mem _ hx)
noncomputable def fw (K : List Nat) : Nat := K.foldl (fun a k => a ||| 2 ^ (k + 1)) 0
theorem fw_next {K : List Nat} {i : Nat} (h : i < K.length) : fw (K.take (i + 1)) = fw (K.take i) ||| 2 ^ (K.getD i 0 + 1) := by
  unfold fw
  rw [take_next K 0 i h, List.foldl_append]; rfl
theorem bor_2 {a k : Nat} : Builtin.bitOr (a : Int) (2 * (2 : Int) ^ k) = ((a ||| 2 ^ (k + 1) : Nat) : Int) := by
  have e : (2 * (2 : Int) ^ k) = ((2 ^ (k + 1) : Nat) : Int) := by rw [Nat.pow_succ]; push_cast; omega
  rw [e, bor_nat]
include shm draw_k bor_2 l_shut l_bl len_S app_len
theorem shut_ex {ns : List Int} {B : List Bl} {N : List (List Nat)} {a : Int} {n : Nat} (hN : BN B N) (h0 : 0 ≤ a) (h1 : a < 900000) :
    At (fun X => ∃ ws : List (List Nat), ws ≠ [] ∧ ws.length ≤ 3 ∧ (∀ w ∈ ws, nmO w) ∧ (∀ w ∈ ws, (idx B w).isSome = true) ∧ X = some (.sh (.tup [.str (txt (.shut ws)), .int (shW B ws : Int)]))) wt (fv (fns P (lu (lu n))) 23 [.lst (ns.map PV.int), .int a, .lst (N.map fun a => PV.str (SS a))]) := by
  rw [r23, b23]
  have hl1 := hN.l1
  have hl6 := hN.l6
  have d3 := draw_in ns (a + 3) 3 (by decide)
  obtain ⟨c, ec⟩ : ∃ c : Nat, 1 + draw ns (a + 3) 3 = (c : Int) := ⟨(1 + draw ns (a + 3) 3).toNat, by omega⟩
  have c1 : 1 ≤ c := by omega
  have c3 : c ≤ 3 := by omega
  have dd : ∀ k : Nat, 0 ≤ draw ns (a + (k : Int)) (N.length : Int) ∧ draw ns (a + (k : Int)) (N.length : Int) < (N.length : Int) := fun k => draw_in ns _ _ (by omega)
  obtain ⟨K, eK⟩ : ∃ K, (List.range c).map (fun (k : Nat) => (draw ns (a + (k : Int)) (N.length : Int)).toNat) = K := ⟨_, rfl⟩
  have lK : K.length = c := by rw [← eK, List.length_map, List.length_range]
  have hK : ∀ k ∈ K, k < N.length := fun k hk => by
    rw [← eK] at hk
    obtain ⟨j, _, rfl⟩ := List.mem_map.mp hk
    have := dd j
    omega
  (sym => simp shm [ec]; tactic =>
  walk_at "go"
  refine at_comp (List.range c) (fun (k : Nat) => .int (k : Int)) (fun (k : Nat) => .int ((draw ns (a + (k : Int)) (N.length : Int)).toNat : Int)) (by exact rangeL_zero c) (fun k hk => ?_) (by rw [List.length_range]; omega) ?_
  · have hk' := List.mem_range.mp hk
    have := dd k
    rw [Int.toNat_of_nonneg this.1]
    (sym => simp shm; tactic =>
    walk_at "go"
    exact at_rfl rfl)
  rw [show ((List.range c).map fun (k : Nat) => PV.int ((draw ns (a + (k : Int)) (N.length : Int)).toNat : Int)) = K.map fun (k : Nat) => PV.int (k : Int) by rw [← eK, List.map_map]; rfl]
  (sym => simp shm; tactic =>
  walk_at "go"
  refine at_forLf K 0 (fun (k : Nat) => PV.int (k : Int)) (fun i e => ∃ j5, shNO j5 = true ∧ e = [some (.sh (.lst (ns.map PV.int))), some (.sh (.int a)), some (.sh (.lst (N.map fun a => PV.str (SS a)))), some (.sh (.lst (K.map fun (k : Nat) => PV.int (k : Int)))), some (.sh (.int ((fw (K.take i) : Nat) : Int))), j5]) rfl ⟨_, rfl, rfl⟩ ?_ ?_
  · rintro i e hi ⟨j5, h5, rfl⟩
    have hk := hK _ (getD_mem (d := 0) hi)
    rw [fw_next hi]
    generalize fw (K.take i) = A at *
    generalize K.getD i 0 = k at *
    (sym => simp shm; tactic =>
    walk_at "go"
    refine at_nx ?_
    exact ⟨_, rfl, rfl⟩)
  · rintro e ⟨j5, h5, rfl⟩
    rw [List.take_length]
    have es : fw K = shW B (K.map fun k => N.getD k []) := (shW_K hN K 0 hK).symm
    rw [es]
    generalize hW : (K.map fun k => N.getD k []) = ws at *
    have lw : ws.length = c := by rw [← hW, List.length_map, lK]
    have hwN : ∀ w ∈ ws, ∃ k, k < N.length ∧ w = N.getD k [] := fun w hw => by
      rw [← hW] at hw
      obtain ⟨k, hk, rfl⟩ := List.mem_map.mp hw
      exact ⟨k, hK k hk, rfl⟩
    have w1 : ∀ w ∈ ws, nmO w := fun w hw => by
      obtain ⟨k, hk, rfl⟩ := hwN w hw
      exact hN.o.1 _ (getD_mem (d := []) hk)
    have w2 : ∀ w ∈ ws, (idx B w).isSome = true := fun w hw => by
      obtain ⟨k, hk, rfl⟩ := hwN w hw
      rw [hN.idx hk]; rfl
    have w0 : ws ≠ [] := fun h => by rw [h] at lw; simp at lw; omega
    (sym => simp shm [h5]; tactic =>
    walk_at "go"
    refine at_comp K (fun (k : Nat) => PV.int (k : Int)) (fun k => .str (SS (N.getD k []))) rfl (fun k hk => ?_) (by omega) ?_
    · have ea := nm_at (hK k hk)
      (sym => simp shm [ea]; tactic =>
      walk_at "go"
      exact at_rfl rfl)
    rw [show (K.map fun k => PV.str (SS (N.getD k []))) = ws.map fun a => PV.str (SS a) by rw [← hW, List.map_map]; rfl]
    obtain ⟨X, eX⟩ : ∃ X : List Str, ws.map SS = X := ⟨_, rfl⟩
    have ea : asStrs (ws.map fun a => PV.str (SS a)) = some X := by rw [as_2, eX]
    have s1 : (List.map Str.length X).sum ≤ 8 * ws.length := by rw [← eX]; exact sum_ws w1
    have lX : X.length = ws.length := by rw [← eX, List.length_map]
    have e2 : Str.ofString "shut " ++ Txt.join (Str.ofString " ") X = txt (.shut ws) := by rw [← eX]; exact tx_shut w0
    have lj : (Txt.join (Str.ofString " ") X).length ≤ 60 := by
      have h2 := txt_len (l := .shut ws) ⟨by omega, by omega, w1⟩
      rw [← e2, app_len] at h2
      omega
    (sym => simp shm [ea]; tactic =>
    walk_at "go"
    refine at_end ⟨ws, w0, by omega, w1, w2, ?_⟩
    rw [← e2]))))
/-! a row that the law draws -/
theorem Rn.snoc {s t u : RS} {ls : List Ln} {l : Ln} (h : Rn s ls t) (h' : St t l u) : Rn s (ls ++ [l]) u := h.app (.one h')
theorem rn_opens {B : List Bl} {rows : List (List (Int × Int))} {k : Nat} {ps : List (Int × Int)} : ∀ (c : Nat) (st : List Int), st.length = c → Rn ⟨B, rows, (k : Int), ps, st⟩ (List.replicate c .opn) ⟨B, rows, (k : Int), ps, []⟩
  | 0, st, h => by
    rw [List.length_eq_zero_iff.mp h]; exact .nil
  | c + 1, st, h => by
    obtain ⟨s0, x, rfl⟩ : ∃ l w, st = l ++ [w] := ⟨_, _, (List.dropLast_concat_getLast (fun e => by rw [e] at h; cases h)).symm⟩
    rw [List.length_append] at h
    exact .cons .opn (rn_opens c s0 (by simp at h; exact h))
theorem rn_shuts {B : List Bl} {rows : List (List (Int × Int))} {k : Nat} {ps : List (Int × Int)} {a : List Nat} (hb : B.length ≤ 6) (ha : nmO a) (hi : (idx B a).isSome = true) : ∀ (c : Nat) (st : List Int), st.length + c ≤ 12 → Rn ⟨B, rows, (k : Int), ps, st⟩ (List.replicate c (.shut [a])) ⟨B, rows, (k : Int), ps, st ++ List.replicate c (shW B [a] : Int)⟩
  | 0, st, h => by
    rw [List.replicate_zero, List.replicate_zero, List.append_nil]; exact .nil
  | c + 1, st, h => by
    have e : st ++ List.replicate (c + 1) (shW B [a] : Int) = (st ++ [(shW B [a] : Int)]) ++ List.replicate c (shW B [a] : Int) := by rw [List.replicate_succ, List.append_assoc]; rfl
    rw [e, List.replicate_succ]
    exact .cons (.shut hb (by omega) (show 1 ≤ 3 by decide) (List.cons_ne_nil _ _) (fun w hw => by rw [List.mem_singleton.mp hw]; exact ha) (fun w hw => by rw [List.mem_singleton.mp hw]; exact hi)) (rn_shuts hb ha hi c _ (by rw [List.length_append]; simp; omega))
theorem lst_snoc {α : Type} {st : List α} (h : 0 < st.length) : ∃ l w, st = l ++ [w] := ⟨_, _, (List.dropLast_concat_getLast (fun e => by rw [e] at h; cases h)).symm⟩
theorem ln_snoc {ls : List Ln} {l : Ln} : (ls ++ [l]).map lnP = ls.map lnP ++ [.str (txt l)] := by rw [List.map_append]; rfl
theorem lns_flat {L : List Ln} : PV.flats (L.map lnP) = true := flats_map (fun _ => rfl) L
theorem orE2_ex {e0 e1 e2 e3 e4 e5 e6 e7 e8 e9 e10 e11 e12 : Option Sl} : ∀ (st : List Int) (a : Int) (x : Option Sl), shNO x = true → ∃ j, shNO j = true ∧ orE 13 14 [e0, e1, e2, e3, e4, e5, e6, e7, e8, e9, e10, e11, e12, some (.sh (.int a)), x] a st = [e0, e1, e2, e3, e4, e5, e6, e7, e8, e9, e10, e11, e12, some (.sh (.int (st.foldl Builtin.bitOr a))), j]
  | [], a, x, h => ⟨x, h, rfl⟩
  | n :: st, a, x, _ => orE2_ex st (Builtin.bitOr a n) (some (.sh (.int n))) rfl
theorem in_34 {w : Int} : in2 (.int w) (.tup [.int 3, .int 4]) = some (decide (3 = w) || (decide (4 = w) || false)) := rfl
theorem in_34f {w : Int} (h : ¬ (w = 3 ∨ w = 4)) : in2 (.int w) (.tup [.int 3, .int 4]) = some false := by
  rw [in_34, decide_eq_false (show ¬ (3 : Int) = w by omega), decide_eq_false (show ¬ (4 : Int) = w by omega)]; rfl
theorem in_34t {w : Int} (h : w = 3 ∨ w = 4) : in2 (.int w) (.tup [.int 3, .int 4]) = some true := by
  rcases h with rfl | rfl <;> rfl
noncomputable def RowI (ns : List Int) (B : List Bl) (N : List (List Nat)) (b o : Int) (i : Nat) (e : PEnv) : Prop := ∃ (ls : List Ln) (ps : List (Int × Int)) (st : List Int) (j7 j9 j10 j11 j12 j13 j14 : Option Sl), (shNO j7 = true ∧ shNO j14 = true) ∧ ls.length ≤ i ∧ ps.length ≤ 11 ∧ st.length ≤ 12 ∧ (∀ rows (k : Nat), Rn ⟨B, rows, (k : Int), [], []⟩ ls ⟨B, rows, (k : Int), ps, st⟩) ∧ e = [some (.sh (.lst (ns.map PV.int))), some (.sh (.int b)), some (.sh (.lst (N.map fun a => PV.str (SS a)))), some (.sh (.int o)), some (.own (ls.map lnP)), some (.own (ps.map plP)), some (.own (st.map PV.int)), j7, none, j9, j10, j11, j12, j13, j14]
theorem RowI.of {ns : List Int} {B : List Bl} {N : List (List Nat)} {b o : Int} {i : Nat} {e : PEnv} (ls : List Ln) (ps : List (Int × Int)) (st : List Int) {j7 j9 j10 j11 j12 j13 j14 : Option Sl} {L P S : List PV} (hj : shNO j7 = true ∧ shNO j14 = true) (h1 : ls.length ≤ i) (h2 : ps.length ≤ 11) (h3 : st.length ≤ 12) (hR : ∀ rows (k : Nat), Rn ⟨B, rows, (k : Int), [], []⟩ ls ⟨B, rows, (k : Int), ps, st⟩) (hL : ls.map lnP = L) (hP : ps.map plP = P) (hS : st.map PV.int = S)
    (he : e = [some (.sh (.lst (ns.map PV.int))), some (.sh (.int b)), some (.sh (.lst (N.map fun a => PV.str (SS a)))), some (.sh (.int o)), some (.own L), some (.own P), some (.own S), j7, none, j9, j10, j11, j12, j13, j14]) : RowI ns B N b o i e := by
  subst hL hP hS
  exact ⟨ls, ps, st, _, _, _, _, _, _, _, hj, h1, h2, h3, hR, he⟩
include rwm draw_k List.length_replicate l_still len_2 lns_flat pls_flat ints_flat
theorem row_ex {ns : List Int} {B : List Bl} {N : List (List Nat)} {b o : Int} {n : Nat} (hN : BN B N) (h0 : 0 ≤ b) (h1 : b < 800000) (o0 : 0 ≤ o) (o2 : o ≤ 2) :
    At (fun X => ∃ (ls : List Ln) (ps : List (Int × Int)), ls.length ≤ 50 ∧ ps ≠ [] ∧ ps.length ≤ 12 ∧ (∀ rows (k : Nat), Rn ⟨B, rows, (k : Int), [], []⟩ ls ⟨B, rows, (k : Int), ps, []⟩) ∧ X = some (.sh (.tup [.lst (ls.map lnP), rowP ps]))) wt (fv (fns P (lu (lu (lu n)))) 24 [.lst (ns.map PV.int), .int b, .lst (N.map fun a => PV.str (SS a)), .int o]) := by
  rw [r24, b24]
  have hl1 := hN.l1
  have hl6 := hN.l6
  have hb6 : B.length ≤ 6 := by rw [hN.l]; exact hl6
  have d0 := draw_in ns b 21 (by decide)
  obtain ⟨m, em⟩ : ∃ m : Nat, draw ns b 21 = (m : Int) := ⟨(draw ns b 21).toNat, by omega⟩
  have m20 : m ≤ 20 := by omega
  (sym => simp rwm [em]; tactic =>
  walk_at "go"
  refine at_forRf m (fun (k : Nat) => .int (k : Int)) (fun i e => RowI ns B N b o i e) (by exact rangeL_zero m) (.of [] [] [] ⟨rfl, rfl⟩ (Nat.le_refl 0) (by decide) (by decide) (fun _ _ => .nil) rfl rfl rfl rfl) ?_ ?_
  · rintro i e hi ⟨ls, ps, st, j7, j9, j10, j11, j12, j13, j14, ⟨s7, s14⟩, l1, l2, l3, hR, rfl⟩
    have d9 := draw_in ns (b + 1 + 6 * (i : Int)) 6 (by decide)
    obtain ⟨w, ew⟩ : ∃ w, draw ns (b + 1 + 6 * (i : Int)) 6 = w := ⟨_, rfl⟩
    rw [ew] at d9
    have dn := draw_in ns (b + 1 + 6 * (i : Int) + 1) 9 (by decide)
    by_cases q : w ≤ 2
    · have c5 : decide (w = 5) = false := decide_eq_false (by omega)
      have ein : in2 (.int w) (.tup [.int 3, .int 4]) = some false := in_34f (by omega)
      rcases bT (b := decide (w < 1 + o)) with f1 | f1
      · rcases bT (b := decide ((st.length : Int) < 12)) with f2 | f2
        · have l3' : st.length < 12 := by have := of_decide_eq_true f2; omega
          obtain ⟨ws, w0, w3, wn, wi, et⟩ := at_start (shut_ex (ns := ns) (a := b + 1 + 6 * (i : Int) + 1) (n := (n)) hN (by omega) (by omega))
          have hR' : ∀ rows (k : Nat), Rn ⟨B, rows, (k : Int), [], []⟩ (ls ++ [.shut ws]) ⟨B, rows, (k : Int), ps, st ++ [(shW B ws : Int)]⟩ := fun rows k => (hR rows k).snoc (.shut hb6 l3' w3 w0 wn wi)
          generalize ht : txt (.shut ws) = T at *
          generalize shW B ws = A at *
          (sym => simp rwm [ew, c5, ein, f1, f2, et]; tactic =>
          walk_at "go"
          exact at_nx (.of (ls ++ [.shut ws]) ps (st ++ [(A : Int)]) ⟨rfl, s14⟩ (by rw [List.length_append]; simp; omega) l2 (by rw [List.length_append]; simp; omega) hR' (by rw [ln_snoc, ht]) rfl (by rw [List.map_append]; rfl) rfl))
        ·
          (sym => simp rwm [ew, c5, ein, f1, f2]; tactic =>
          walk_at "go"
          exact at_nx (.of ls ps st ⟨rfl, s14⟩ (by omega) l2 l3 hR rfl rfl rfl rfl))
      ·
        (sym => simp rwm [ew, c5, ein, f1]; tactic =>
        walk_at "go"
        exact at_nx (.of ls ps st ⟨rfl, s14⟩ (by omega) l2 l3 hR rfl rfl rfl rfl))
    · have f1 : decide (w < 1 + o) = false := decide_eq_false (by omega)
      by_cases q5 : w = 5
      · subst q5
        have ein : in2 (.int 5) (.tup [.int 3, .int 4]) = some false := in_34f (by omega)
        rcases bT (b := decide (0 < (st.length : Int))) with f2 | f2
        · have l3' : 0 < st.length := by have := of_decide_eq_true f2; omega
          obtain ⟨s0, x, es⟩ := lst_snoc l3'
          have e2 : (st.map PV.int).dropLast = s0.map PV.int := by rw [es, List.map_append]; exact List.dropLast_concat
          have e3 : ¬ st.length = 0 := by omega
          have hR' : ∀ rows (k : Nat), Rn ⟨B, rows, (k : Int), [], []⟩ (ls ++ [.opn]) ⟨B, rows, (k : Int), ps, s0⟩ := fun rows k => (es ▸ hR rows k).snoc .opn
          have ls0 : s0.length ≤ 12 := by rw [es, List.length_append] at l3; omega
          (sym => simp rwm [ew, ein, f1, f2, e2, e3]; tactic =>
          walk_at "go"
          exact at_nx (.of (ls ++ [.opn]) ps s0 ⟨rfl, s14⟩ (by rw [List.length_append]; simp; omega) l2 ls0 hR' (by rw [ln_snoc, ← tx_open]) rfl rfl rfl))
        ·
          (sym => simp rwm [ew, ein, f1, f2]; tactic =>
          walk_at "go"
          exact at_nx (.of ls ps st ⟨rfl, s14⟩ (by omega) l2 l3 hR rfl rfl rfl rfl))
      · have c5 : decide (w = 5) = false := decide_eq_false q5
        have ein : in2 (.int w) (.tup [.int 3, .int 4]) = some true := in_34t (by omega)
        rcases bT (b := decide ((ps.length : Int) < 11)) with f2 | f2
        · have l2' : ps.length < 11 := by have := of_decide_eq_true f2; omega
          obtain ⟨r, er⟩ : ∃ r : Nat, 1 + draw ns (b + 1 + 6 * (i : Int) + 1) 9 = (r : Int) := ⟨(1 + draw ns (b + 1 + 6 * (i : Int) + 1) 9).toNat, by omega⟩
          have r1 : 1 ≤ r := by omega
          have r9 : r ≤ 9 := by omega
          have ef := fig_s r1 r9
          have lg : (r : Int).natAbs.log2 < 1920 := by rw [Int.natAbs_natCast]; exact Nat.lt_of_le_of_lt (Nat.log2_le_self r) (by omega)
          have en : asInts (st.map PV.int) = some st := asInts_map st
          have hR' : ∀ rows (k : Nat), Rn ⟨B, rows, (k : Int), [], []⟩ (ls ++ [.still r]) ⟨B, rows, (k : Int), ps ++ [((r : Int), orL st)], st⟩ := fun rows k => (hR rows k).snoc (.still (by omega) l3 r1 r9)
          obtain ⟨jo, so, oj⟩ := orE2_ex (e0 := some (Sl.sh (.lst (ns.map PV.int)))) (e1 := some (.sh (.int b))) (e2 := some (.sh (.lst (N.map fun a => PV.str (SS a))))) (e3 := some (.sh (.int o))) (e4 := some (.own (ls.map lnP ++ [.str (Str.ofString "still " ++ SS [48 + r])]))) (e5 := some (.own (ps.map plP))) (e6 := some (.own (st.map PV.int))) (e7 := some (.sh (.int (i : Int)))) (e8 := none) (e9 := some (.sh (.int (b + 1 + 6 * (i : Int))))) (e10 := some (.sh (.int w))) (e11 := j11) (e12 := some (.sh (.int (r : Int)))) st 0 j14 s14
          have tx := tx_still (r := r)
          generalize hc : 48 + r = c at *
          (sym => simp rwm [ew, c5, ein, f1, f2, er, ef, lg, en, oj]; tactic =>
          walk_at "go"
          exact at_nx (.of (ls ++ [.still r]) (ps ++ [((r : Int), orL st)]) st ⟨rfl, so⟩ (by rw [List.length_append]; simp; omega) (by rw [List.length_append]; simp; omega) l3 hR' (by rw [ln_snoc, ← tx]) (by rw [List.map_append]; rfl) rfl rfl))
        ·
          (sym => simp rwm [ew, c5, ein, f1, f2]; tactic =>
          walk_at "go"
          exact at_nx (.of ls ps st ⟨rfl, s14⟩ (by omega) l2 l3 hR rfl rfl rfl rfl))
  · rintro e ⟨ls, ps, st, j7, j9, j10, j11, j12, j13, j14, ⟨s7, s14⟩, l1, l2, l3, hR, rfl⟩
    have d1 := draw_in ns (b + 127) 6 (by decide)
    obtain ⟨z, ez⟩ : ∃ z, draw ns (b + 127) 6 = z := ⟨_, rfl⟩
    rw [ez] at d1
    have fl : ∀ (L : List Int), PV.flats (L.map fun _ => PV.str (Str.ofString "open")) = true := fun L => flats_map (fun _ => rfl) L
    obtain ⟨nm, enm⟩ : ∃ a, N.getD (z.fmod (N.length : Int)).toNat [] = a := ⟨_, rfl⟩
    have zf : 0 ≤ z.fmod (N.length : Int) ∧ z.fmod (N.length : Int) < (N.length : Int) := ⟨Int.fmod_nonneg_of_pos _ (by omega), Int.fmod_lt_of_pos _ (by omega)⟩
    have zl : (z.fmod (N.length : Int)).toNat < N.length := by omega
    have ea : atI (N.map fun a => PV.str (SS a)) (z.fmod (N.length : Int)) = some (.str (SS nm)) := by
      have := nm_at zl
      rw [Int.toNat_of_nonneg zf.1, enm] at this
      exact this
    have nmo : nmO nm := by rw [← enm]; exact hN.o.1 _ (getD_mem (d := []) zl)
    have nmi : (idx B nm).isSome = true := by rw [← enm, hN.idx zl]; rfl
    have nl : nm.length ≤ 8 := nmo.2.1
    have r1 : ∀ rows (k : Nat), Rn ⟨B, rows, (k : Int), [], []⟩ (ls ++ List.replicate st.length Ln.opn ++ [Ln.still 9]) ⟨B, rows, (k : Int), ps ++ [(9, 0)], []⟩ := fun rows k => ((hR rows k).app (rn_opens _ _ rfl)).snoc (.still (by omega) (by decide) (by decide) (by decide))
    have r2 : ∀ (c : Nat) rows (k : Nat), c ≤ 2 → Rn ⟨B, rows, (k : Int), [], []⟩ (ls ++ List.replicate st.length Ln.opn ++ [Ln.still 9] ++ List.replicate c (Ln.shut [nm]) ++ List.replicate c Ln.opn) ⟨B, rows, (k : Int), ps ++ [(9, 0)], []⟩ := fun c rows k hc => ((r1 rows k).app (rn_shuts hb6 nmo nmi c [] (by simp; omega))).app (rn_opens c _ (by simp))
    have lq : (ls ++ List.replicate st.length Ln.opn ++ [Ln.still 9]).length ≤ 33 := by rw [List.length_append, List.length_append, List.length_replicate]; simp; omega
    have eq1 : ls.map lnP ++ st.map (fun _ => PV.str (Str.ofString "open")) ++ [PV.str (Str.ofString "still 9")] = (ls ++ List.replicate st.length Ln.opn ++ [Ln.still 9]).map lnP := by
      rw [List.map_append, List.map_append, List.map_replicate, List.map_const', tx_open, tx_still9]; rfl
    have eq2 : ps.map plP ++ [PV.tup [.tup [.str (Str.ofString "still"), .int 9], .int 0]] = (ps ++ [((9 : Int), (0 : Int))]).map plP := by rw [List.map_append]; rfl
    have lp : (ps ++ [((9 : Int), (0 : Int))]).length ≤ 12 := by rw [List.length_append]; simp; omega
    have np : ps ++ [((9 : Int), (0 : Int))] ≠ [] := by simp
    (sym => simp rwm [ez, s14]; tactic =>
    walk_at "go"
    refine at_comp st (fun x => .int x) (fun _ => .str (Str.ofString "open")) rfl (fun x hx => ?_) (by omega) ?_
    ·
      (sym => simp rwm; tactic =>
      walk_at "go"
      exact at_rfl rfl)
    generalize hQ : ls ++ List.replicate st.length Ln.opn ++ [Ln.still 9] = Q at *
    generalize hP : ps ++ [((9 : Int), (0 : Int))] = PS at *
    rcases bT (b := decide (z < 2)) with f | f
    · obtain ⟨c, ec⟩ : ∃ c : Nat, z + 1 = (c : Int) := ⟨(z + 1).toNat, by omega⟩
      have c2 : c ≤ 2 := by have := of_decide_eq_true f; omega
      have tq := tx_shut1 (a := nm)
      (sym => simp rwm [ez, s14, s7, f, eq1, eq2, ec]; tactic =>
      walk_at "go"
      refine at_comp (List.range c) (fun (k : Nat) => .int (k : Int)) (fun _ => .str (txt (.shut [nm]))) (by exact rangeL_zero c) (fun k hk => ?_) (by rw [List.length_range]; omega) ?_
      · rw [← tq]
        (sym => simp rwm [ea, l_shut, len_S]; tactic =>
        walk_at "go"
        exact at_rfl rfl)
      rw [show ((List.range c).map fun _ => PV.str (txt (.shut [nm]))) = (List.replicate c (Ln.shut [nm])).map lnP by rw [List.map_const', List.length_range, List.map_replicate]; rfl]
      (sym => simp rwm [ec, s7]; tactic =>
      walk_at "go"
      refine at_comp (List.range c) (fun (k : Nat) => .int (k : Int)) (fun _ => .str (Str.ofString "open")) (by exact rangeL_zero c) (fun k hk => ?_) (by rw [List.length_range]; omega) ?_
      ·
        (sym => simp rwm; tactic =>
        walk_at "go"
        exact at_rfl rfl)
      rw [show ((List.range c).map fun _ => PV.str (Str.ofString "open")) = (List.replicate c Ln.opn).map lnP by rw [List.map_const', List.length_range, List.map_replicate]; rfl]
      have eq3 : Q.map lnP ++ (List.replicate c (Ln.shut [nm])).map lnP ++ (List.replicate c Ln.opn).map lnP = (Q ++ List.replicate c (Ln.shut [nm]) ++ List.replicate c Ln.opn).map lnP := by rw [List.map_append, List.map_append]
      have l3 : (Q ++ List.replicate c (Ln.shut [nm]) ++ List.replicate c Ln.opn).length ≤ 50 := by rw [List.length_append, List.length_append, List.length_replicate, List.length_replicate]; omega
      (sym => simp rwm [eq3]; tactic =>
      walk_at "go"
      exact at_end ⟨_, PS, l3, np, lp, fun rows k => r2 c rows k c2, rfl⟩)))
    ·
      (sym => simp rwm [ez, s14, s7, f, eq1, eq2]; tactic =>
      walk_at "go"
      exact at_end ⟨Q, PS, by omega, np, lp, r1, rfl⟩)))
/-! the law (k08) -/
theorem flVs_strs : ∀ N : List (List Nat), flVs (N.map fun a => PV.str (SS a)) = some (N.map fun a => V.str (SS a))
  | [] => rfl
  | a :: N => by
    show (flVs (N.map fun a => PV.str (SS a))).map _ = _
    rw [flVs_strs N]; rfl
theorem inV_strs {m : List Nat} : ∀ N : List (List Nat), inV (.str (SS m)) (N.map fun a => V.str (SS a)) = decide (m ∈ N)
  | [] => rfl
  | a :: N => by
    have e := inV_strs (m := m) N
    show ((SS a == SS m) || inV (.str (SS m)) (N.map fun a => V.str (SS a))) = _
    rw [e, SX.S_beq_eq, ← Bool.decide_or]
    exact decide_eq_decide.mpr (by rw [List.mem_cons]; exact or_congr_left eq_comm)
theorem in_strs {m : List Nat} {N : List (List Nat)} : in2 (.str (SS m)) (.lst (N.map fun a => PV.str (SS a))) = some (decide (m ∈ N)) := by
  show (match (flVs (N.map fun a => PV.str (SS a))).map (fun vs => inV (.str (SS m)) vs) with
    | some b => some b
    | none => inD (.str (SS m)) (N.map fun a => PV.str (SS a))) = _
  rw [flVs_strs, Option.map_some, inV_strs]
noncomputable def bellsW (ns : List Int) (N : List (List Nat)) : List Bl := (List.range N.length).map fun k => (N.getD k [], 1 + draw ns (14 + (k : Int)) 9)
theorem bw_get {ns : List Int} {N : List (List Nat)} {i : Nat} (h : i < N.length) : (bellsW ns N).getD i bl0 = (N.getD i [], 1 + draw ns (14 + (i : Int)) 9) := by
  unfold bellsW
  rw [List.getD_eq_getElem?_getD, List.getElem?_map, List.getElem?_range h]; rfl
theorem bw_len {ns : List Int} {N : List (List Nat)} : (bellsW ns N).length = N.length := by unfold bellsW; rw [List.length_map, List.length_range]
theorem bw_BN {ns : List Int} {N : List (List Nat)} (hO : NmO N) (h1 : 1 ≤ N.length) (h6 : N.length ≤ 6) : BN (bellsW ns N) N := ⟨bw_len, hO, fun i hi => by rw [bw_get hi], h1, h6⟩
noncomputable def bwk (ns : List Int) (N : List (List Nat)) (i : Nat) : List Bl := (List.range i).map fun k => (N.getD k [], 1 + draw ns (14 + (k : Int)) 9)
theorem bwk_all {ns : List Int} {N : List (List Nat)} : bwk ns N N.length = bellsW ns N := rfl
theorem bwk_next {ns : List Int} {N : List (List Nat)} {i : Nat} : bwk ns N (i + 1) = bwk ns N i ++ [(N.getD i [], 1 + draw ns (14 + (i : Int)) 9)] := by unfold bwk; rw [List.range_succ, List.map_append]; rfl
theorem bwk_no {ns : List Int} {N : List (List Nat)} {i : Nat} (hO : NmO N) (h : i < N.length) : idx (bwk ns N i) (N.getD i []) = none := by
  unfold idx
  rw [List.findIdx?_eq_none_iff]
  intro b hb
  obtain ⟨k, hk, rfl⟩ := List.mem_map.mp hb
  have hk' := List.mem_range.mp hk
  simp only [decide_eq_false_iff_not]
  intro e
  have := nd_inj hO.2 (i := k) (j := i) (by omega) h e
  omega
noncomputable def rowsP (H : List Bl) (R : List (List (Int × Int))) : List PV := (List.range R.length).map fun k => rw8P (H.getD k bl0, R.getD k [])
theorem rowsP_snoc {H : List Bl} {R : List (List (Int × Int))} {p : List (Int × Int)} : rowsP H (R ++ [p]) = rowsP H R ++ [rw8P (H.getD R.length bl0, p)] := by
  unfold rowsP
  rw [List.length_append, show [p].length = 1 from rfl, List.range_succ, List.map_append]
  congr 1
  · refine List.map_congr_left fun k hk => ?_
    have := List.mem_range.mp hk
    rw [show (R ++ [p]).getD k [] = R.getD k [] by rw [List.getD_eq_getElem?_getD, List.getD_eq_getElem?_getD (l := R), List.getElem?_append_left this]]
  · show [rw8P (H.getD R.length bl0, (R ++ [p]).getD R.length [])] = _
    rw [List.getD_eq_getElem?_getD (l := R ++ [p]), List.getElem?_append_right (Nat.le_refl _), Nat.sub_self]; rfl
noncomputable def LawS (B : List Bl) (ls : List Ln) (R : List (List (Int × Int))) : Prop := (R = [] ∧ Rn rs0 ls ⟨B, [], -1, [], []⟩) ∨ ∃ R' ps, R = R' ++ [ps] ∧ Rn rs0 ls ⟨B, R', (R'.length : Int), ps, []⟩ ∧ ps ≠ [] ∧ ps.length ≤ 12
theorem lawS_step {B : List Bl} {N : List (List Nat)} {ls ls2 : List Ln} {R : List (List (Int × Int))} {p2 : List (Int × Int)} (hN : BN B N) (h : LawS B ls R) (hl : R.length ≤ B.length) (hR : ∀ rows (k : Nat), Rn ⟨B, rows, (k : Int), [], []⟩ ls2 ⟨B, rows, (k : Int), p2, []⟩) (hp : p2 ≠ []) (hp2 : p2.length ≤ 12) : LawS B (ls ++ [.row (((cds "main", (0 : Int)) :: B).getD R.length bl0).1] ++ ls2) (R ++ [p2]) := by
  have hb6 : B.length ≤ 6 := by rw [hN.l]; exact hN.l6
  rcases h with ⟨rfl, h⟩ | ⟨R', ps, rfl, h, h1, h2⟩
  · exact .inr ⟨[], p2, rfl, (h.snoc (.row0 hb6)).app (hR [] 0), hp, hp2⟩
  · rw [List.length_append] at hl ⊢
    have hk : R'.length < B.length := hl
    have e : (((cds "main", (0 : Int)) :: B).getD (R'.length + [ps].length) bl0).1 = (B.getD R'.length bl0).1 := rfl
    rw [e]
    have nmo : nmO (B.getD R'.length bl0).1 := by
      have hk' : R'.length < N.length := by rw [← hN.l]; exact hk
      rw [hN.g _ hk']
      exact hN.o.1 _ (getD_mem (d := []) hk')
    have st := h.snoc (.row hk hb6 h1 (by omega) h2 nmo)
    have q := hR (R' ++ [ps]) (R'.length + 1)
    refine .inr ⟨R' ++ [ps], p2, rfl, ?_, hp, hp2⟩
    rw [List.length_append]
    exact st.app q
theorem okD_rw8 (q : (List Nat × Int) × List (Int × Int)) (h : q.2.length ≤ 16777216) : okD 4 (rw8P q) := by
  refine ⟨show 3 ≤ 16777216 by decide, fun x hx => ?_⟩
  rcases List.mem_cons.mp hx with rfl | hx
  · exact okD_str _
  · rcases List.mem_cons.mp hx with rfl | hx
    · exact okD_int _
    · rw [List.mem_singleton.mp hx]
      refine okD_tupM h fun p _ => ?_
      exact okD_two (okD_two (okD_str _) (okD_int _)) (okD_int _)
theorem prg8_ok {B : List Bl} {R : List (List (Int × Int))} (hb : B.length ≤ 6) (hR : ∀ r ∈ R, r.length ≤ 12) : okD 7 (prg8 B R) := by
  have h : okD 6 (prg8 B R) := by
    refine okD_two (⟨by decide, fun x hx => (List.not_mem_nil hx).elim⟩) ?_
    refine okD_tupM (by rw [List.length_range]; omega) fun k _ => okD_rw8 _ ?_
    show (R.getD k []).length ≤ _
    rw [List.getD_eq_getElem?_getD]
    by_cases hk : k < R.length
    · rw [List.getElem?_eq_getElem hk]
      have := hR _ (List.getElem_mem hk)
      simp only [Option.getD_some]; omega
    · rw [List.getElem?_eq_none (by omega)]; decide
  exact okD_up h 1
theorem cut_x {k : Nat} (h : k < 6) : cutS (Str.ofString "xxxxxx") none (some ((k : Int) + 1)) = SS (List.replicate (k + 1) 120) := by
  rw [C8.cutS_slice, show Str.ofString "xxxxxx" = SS (List.replicate 6 120) by rfl]
  rw [show (k : Int) + 1 = ((k + 1 : Nat) : Int) by omega]
  rw [SX.slice_to (by omega), Int.toNat_natCast, List.take_replicate, Nat.min_eq_left (by omega)]
theorem x_main {m : Nat} : cds "main" ∉ (List.range m).map fun k => List.replicate (k + 1) 120 := fun h => by
  obtain ⟨k, _, e⟩ := List.mem_map.mp h
  have : (109 : Nat) ∈ List.replicate (k + 1) 120 := by rw [e]; decide
  have := (List.mem_replicate.mp this).2
  omega
noncomputable def BellI (ns : List Int) (N : List (List Nat)) (o : Int) (i : Nat) (e : PEnv) : Prop := ∃ (ls : List Ln) (j5 : Option Sl), ls.length = i ∧ Rn rs0 ls ⟨bwk ns N i, [], -1, [], []⟩ ∧ e = [some (.sh (.lst (ns.map PV.int))), some (.sh (.int (N.length : Int))), some (.own (N.map fun a => PV.str (SS a))), some (.sh (.int o)), some (.own (ls.map lnP)), j5, none, none, none, none]
theorem BellI.of {ns : List Int} {N : List (List Nat)} {o : Int} {i : Nat} {e : PEnv} (ls : List Ln) {j5 : Option Sl} {L : List PV} (h1 : ls.length = i) (h2 : Rn rs0 ls ⟨bwk ns N i, [], -1, [], []⟩) (hL : ls.map lnP = L) (he : e = [some (.sh (.lst (ns.map PV.int))), some (.sh (.int (N.length : Int))), some (.own (N.map fun a => PV.str (SS a))), some (.sh (.int o)), some (.own L), j5, none, none, none, none]) : BellI ns N o i e := by
  subst hL
  exact ⟨ls, j5, h1, h2, he⟩
noncomputable def nmS (N : List (List Nat)) : Nat → Sl
  | 0 => .own (N.map fun a => PV.str (SS a))
  | _ + 1 => .sh (.lst (N.map fun a => PV.str (SS a)))
theorem rowsP_len {H : List Bl} {R : List (List (Int × Int))} : (rowsP H R).length = R.length := by unfold rowsP; rw [List.length_map, List.length_range]
theorem l_x : (Str.ofString "xxxxxx").length = 6 := rfl
noncomputable def RwI (ns : List Int) (N : List (List Nat)) (o : Int) (i : Nat) (e : PEnv) : Prop := ∃ (ls : List Ln) (R : List (List (Int × Int))) (j5 j7 j8 j9 : Option Sl), ls.length ≤ 6 + 51 * i ∧ R.length = i ∧ LawS (bellsW ns N) ls R ∧ (∀ r ∈ R, r.length ≤ 12) ∧ e = [some (.sh (.lst (ns.map PV.int))), some (.sh (.int (N.length : Int))), some (nmS N i), some (.sh (.int o)), some (.own (ls.map lnP)), j5, some (.own (rowsP ((cds "main", 0) :: bellsW ns N) R)), j7, j8, j9]
theorem RwI.of {ns : List Int} {N : List (List Nat)} {o : Int} {i : Nat} {e : PEnv} (ls : List Ln) (R : List (List (Int × Int))) {j5 j7 j8 j9 : Option Sl} {L M : List PV} (h1 : ls.length ≤ 6 + 51 * i) (h2 : R.length = i) (h3 : LawS (bellsW ns N) ls R) (h4 : ∀ r ∈ R, r.length ≤ 12) (hL : ls.map lnP = L) (hM : rowsP ((cds "main", 0) :: bellsW ns N) R = M) (he : e = [some (.sh (.lst (ns.map PV.int))), some (.sh (.int (N.length : Int))), some (nmS N i), some (.sh (.int o)), some (.own L), j5, some (.own M), j7, j8, j9]) : RwI ns N o i e := by
  subst hL hM
  exact ⟨ls, R, _, _, _, _, h1, h2, h3, h4, he⟩
theorem rowsP_flat {H : List Bl} {R : List (List (Int × Int))} : PV.flats (rowsP H R) = true := flats_map (fun _ => rw8P_flat) _
include lwb draw_k l_bell l_bl l_row len_S app_len len_2 lns_flat rowP_flat rowsP_flat
theorem law_tail {ns : List Int} {N : List (List Nat)} {o : Int} {n : Nat} (hO : NmO N) (h1 : 1 ≤ N.length) (h6 : N.length ≤ 6) (hm : cds "main" ∉ N) (o0 : 0 ≤ o) (o2 : o ≤ 2) :
    At (fun x => x = some (Sl.sh (.bl true))) wt (finK (exs (fns P (lu (lu (lu (lu (lu (lu (lu (lu n))))))))) b25_11 [some (.sh (.lst (ns.map PV.int))), some (.sh (.int (N.length : Int))), some (.own (N.map fun a => PV.str (SS a))), some (.sh (.int o)), none, none, none, none, none, none])) := by
  have hN := bw_BN (ns := ns) hO h1 h6
  (sym => simp lwb; tactic =>
  walk_at "go"
  refine at_forRf N.length (fun (k : Nat) => .int (k : Int)) (fun i e => BellI ns N o i e) (by exact rangeL_zero _) (BellI.of [] rfl .nil rfl rfl) ?_ ?_
  · rintro i e hi ⟨ls, j5, l1, hR, rfl⟩
    have dr := draw_in ns (14 + (i : Int)) 9 (by decide)
    obtain ⟨r, er⟩ : ∃ r : Nat, 1 + draw ns (14 + (i : Int)) 9 = (r : Int) := ⟨(1 + draw ns (14 + (i : Int)) 9).toNat, by omega⟩
    have r1 : 1 ≤ r := by omega
    have r9 : r ≤ 9 := by omega
    have ef := fig_s r1 r9
    have lg : (r : Int).natAbs.log2 < 1920 := by rw [Int.natAbs_natCast]; exact Nat.lt_of_le_of_lt (Nat.log2_le_self r) (by omega)
    have ea := nm_at hi
    have nmo : nmO (N.getD i []) := hO.1 _ (getD_mem (d := []) hi)
    have hR' : Rn rs0 (ls ++ [Ln.bell (N.getD i []) r]) ⟨bwk ns N (i + 1), [], -1, [], []⟩ := by
      rw [bwk_next, er]
      exact hR.snoc (.bell (by unfold bwk; rw [List.length_map, List.length_range]; omega) nmo (fun e => hm (e ▸ getD_mem (d := []) hi)) (bwk_no hO hi) r1 r9)
    have tx := tx_bell (a := N.getD i []) (r := r)
    have nl := nmo.2.1
    generalize N.getD i [] = a at *
    generalize hc : 48 + r = c at *
    (sym => simp lwb [er, ea, ef, lg]; tactic =>
    walk_at "go"
    exact at_nx (BellI.of (ls ++ [Ln.bell a r]) (by rw [List.length_append, l1]; rfl) hR' (by rw [ln_snoc, ← tx]) rfl))
  · rintro e ⟨ls, j5, l1, hR, rfl⟩
    rw [bwk_all] at hR
    (sym => simp lwb; tactic =>
    walk_at "go"
    refine at_forRf (N.length + 1) (fun (k : Nat) => .int (k : Int)) (fun i e => RwI ns N o i e) (by exact rangeL_zero _) (RwI.of ls [] (by omega) rfl (.inl ⟨rfl, hR⟩) (fun r hr => (List.not_mem_nil hr).elim) rfl rfl rfl) ?_ ?_
    · rintro i e hi ⟨ls, R, j5, j7, j8, j9, l1, l2, hS, h4, rfl⟩
      obtain ⟨ls2, p2, b1, b2, b3, hR2, et⟩ := at_start (row_ex (ns := ns) (b := 30 + 130 * (i : Int)) (o := o) (n := (lu (lu (lu (lu (lu n)))))) hN (by omega) (by omega) o0 o2)
      obtain ⟨nm, rk, eH⟩ : ∃ nm rk, ((cds "main", (0 : Int)) :: bellsW ns N).getD i bl0 = (nm, rk) := ⟨_, _, rfl⟩
      have hS' : LawS (bellsW ns N) (ls ++ [Ln.row nm] ++ ls2) (R ++ [p2]) := by
        have := lawS_step hN hS (by rw [l2, bw_len]; omega) hR2 b2 b3
        rw [l2, eH] at this
        exact this
      have eM : rowsP ((cds "main", 0) :: bellsW ns N) (R ++ [p2]) = rowsP ((cds "main", 0) :: bellsW ns N) R ++ [.tup [.str (SS nm), .int rk, rowP p2]] := by
        rw [rowsP_snoc, l2, eH]; rfl
      have eN : PV.str (Str.ofString "main") :: N.map (fun a => PV.str (SS a)) = (cds "main" :: N).map fun a => PV.str (SS a) := by rw [main_s]; rfl
      have en : (cds "main" :: N).getD i [] = nm := by
        cases i with
        | zero => exact congrArg Prod.fst eH
        | succ j =>
          have q : (bellsW ns N).getD j bl0 = (nm, rk) := eH
          rw [bw_get (by omega)] at q
          exact congrArg Prod.fst q
      have ea := nm_at (N := cds "main" :: N) (i := i) (by rw [List.length_cons]; omega)
      rw [en] at ea
      have nmo : nm.length ≤ 8 := by
        rw [← en]
        cases i with
        | zero => show (cds "main").length ≤ 8; decide
        | succ j => exact (hO.1 _ (getD_mem (d := []) (show j < N.length by omega))).2.1
      have tx := tx_row (a := nm)
      have h4' : ∀ r ∈ R ++ [p2], r.length ≤ 12 := fun r hr => by
        rcases List.mem_append.mp hr with h | h
        · exact h4 r h
        · rw [List.mem_singleton.mp h]; exact b3
      have lT : (ls ++ [Ln.row nm] ++ ls2).length ≤ 6 + 51 * (i + 1) := by rw [List.length_append, List.length_append, show [Ln.row nm].length = 1 from rfl]; omega
      have eL : (ls ++ [Ln.row nm] ++ ls2).map lnP = ls.map lnP ++ [PV.str (Str.ofString "row " ++ SS nm)] ++ ls2.map lnP := by rw [List.map_append, ln_snoc, tx]
      have lR : (R ++ [p2]).length = i + 1 := by rw [List.length_append, l2]; rfl
      have lW : (rowsP ((cds "main", 0) :: bellsW ns N) R).length = i := by rw [rowsP_len, l2]
      generalize (cds "main" :: N) = N' at *
      generalize hH : rowsP ((cds "main", 0) :: bellsW ns N) R = W at *
      cases i with
      | zero =>
        have e0 : rk = 0 := (congrArg Prod.snd eH).symm
        subst e0
        rw [show (30 : Int) + 130 * ((0 : Nat) : Int) = 30 from rfl] at et
        rw [show ((0 : Nat) : Int) = 0 from rfl] at ea
        simp only [nmS]
        (sym => simp lwb [et, ea, eN]; tactic =>
        walk_at "go"
        exact at_nx (RwI.of (ls ++ [Ln.row nm] ++ ls2) (R ++ [p2]) lT lR hS' h4' eL eM rfl))
      | succ j =>
        have e0 : 1 + draw ns (13 + ((j + 1 : Nat) : Int)) 9 = rk := by
          have q : (bellsW ns N).getD j bl0 = (nm, rk) := eH
          rw [bw_get (by omega)] at q
          rw [show (13 : Int) + ((j + 1 : Nat) : Int) = 14 + (j : Int) by omega]
          exact congrArg Prod.snd q
        have f : decide ((0 : Int) < ((j + 1 : Nat) : Int)) = true := decide_eq_true (by omega)
        simp only [nmS]
        generalize j + 1 = i at *
        (sym => simp lwb [et, ea, eN, e0, f]; tactic =>
        walk_at "go"
        exact at_nx (RwI.of (ls ++ [Ln.row nm] ++ ls2) (R ++ [p2]) lT lR hS' h4' eL eM rfl))
    · rintro e ⟨ls, R, j5, j7, j8, j9, l1, l2, hS, h4, rfl⟩
      rcases hS with ⟨rfl, h⟩ | ⟨R', ps, rfl, h, p1, p2⟩
      · rw [show ([] : List (List (Int × Int))).length = 0 from rfl] at l2; omega
      have lR : R'.length = N.length := by rw [List.length_append] at l2; simpa using l2
      have lB := bw_len (ns := ns) (N := N)
      have lRB : R'.length = (bellsW ns N).length := by rw [lB, lR]
      rw [show (R'.length : Int) = ((bellsW ns N).length : Int) by rw [lRB]] at h
      have e1 := read_k (n := (lu (lu n))) h p1 p2 (by omega) lRB (by omega)
      have e2 := same_eq (n := (n)) (prg8_ok (B := bellsW ns N) (R := R' ++ [ps]) (by omega) h4)
      have eP : PV.tup [.tup [], .tup (rowsP ((cds "main", 0) :: bellsW ns N) (R' ++ [ps]))] = prg8 (bellsW ns N) (R' ++ [ps]) := by unfold rowsP prg8; rw [l2, lB]
      have fP := prg8_flat (bells := bellsW ns N) (rows := R' ++ [ps])
      generalize prg8 (bellsW ns N) (R' ++ [ps]) = Z at *
      generalize rowsP ((cds "main", 0) :: bellsW ns N) (R' ++ [ps]) = W at *
      simp only [nmS]
      (sym => simp lwb [e1, eP, e2, fP]; tactic =>
      walk_at "go"
      exact at_rfl rfl)))
include lwa draw_k no_Pr.u25_11
theorem law_fv {ns : List Int} {n : Nat} : fv (fns P (lu (lu (lu (lu (lu (lu (lu (lu (lu n)))))))))) 25 [.lst (ns.map PV.int)] = some (.sh (.bl true)) := by
  rw [r25, b25]
  refine at_eq ?_
  have d0 := draw_in ns 0 6 (by decide)
  have d13 := draw_in ns 13 3 (by decide)
  obtain ⟨m, em⟩ : ∃ m : Nat, 1 + draw ns 0 6 = (m : Int) := ⟨(1 + draw ns 0 6).toNat, by omega⟩
  have m1 : 1 ≤ m := by omega
  have m6 : m ≤ 6 := by omega
  obtain ⟨N, l0, o0, e0⟩ := at_start (names_ex (ns := ns) (m := m) (n := (lu (lu (lu (lu (lu (lu n))))))) m1 m6)
  have eM : in2 (.str (Str.ofString "main")) (.lst (N.map fun a => PV.str (SS a))) = some (decide (cds "main" ∈ N)) := by rw [main_s]; exact in_strs
  rcases bT (b := decide (cds "main" ∈ N)) with f | f
  · rw [f] at eM
    (sym => simp lwa [em, e0, eM]; tactic =>
    walk_at "go"
    refine at_comp (List.range m) (fun (k : Nat) => .int (k : Int)) (fun (k : Nat) => .str (SS (List.replicate (k + 1) 120))) (by exact rangeL_zero m) (fun k hk => ?_) (by rw [List.length_range]; omega) ?_
    · have hk' := List.mem_range.mp hk
      have ec := cut_x (k := k) (by omega)
      (sym => simp lwa [ec, l_x]; tactic =>
      walk_at "go"
      exact at_rfl rfl)
    rw [show ((List.range m).map fun (k : Nat) => PV.str (SS (List.replicate (k + 1) 120))) = ((List.range m).map fun k => List.replicate (k + 1) 120).map fun a => PV.str (SS a) by rw [List.map_map]; rfl]
    have lm : ((List.range m).map fun k => List.replicate (k + 1) 120).length = m := by rw [List.length_map, List.length_range]
    have hx := nm_x (m := m) m6
    have hx2 := x_main (m := m)
    generalize ((List.range m).map fun k => List.replicate (k + 1) 120) = N2 at *
    subst lm
    rcases bT (b := decide (draw ns 13 3 = 0)) with g | g
    ·
      (sym => simp lwa [g]; tactic =>
      walk_at "go"
      exact law_tail (o := 2) hx m1 m6 hx2 (by decide) (by decide))
    ·
      (sym => simp lwa [g]; tactic =>
      walk_at "go"
      exact law_tail (o := 0) hx m1 m6 hx2 (by decide) (by decide)))
  · rw [f] at eM
    have hx2 := of_decide_eq_false f
    subst l0
    rcases bT (b := decide (draw ns 13 3 = 0)) with g | g
    ·
      (sym => simp lwa [em, e0, eM, g]; tactic =>
      walk_at "go"
      exact law_tail (o := 2) o0 m1 m6 hx2 (by decide) (by decide))
    ·
      (sym => simp lwa [em, e0, eM, g]; tactic =>
      walk_at "go"
      exact law_tail (o := 0) o0 m1 m6 hx2 (by decide) (by decide))

theorem law_true (ns : List Int) (h : ns.length ≤ 63) : fns P 30 25 [.sh (.lst (ns.map PV.int))] = some (.sh (.bl true), []) :=
  fv_law (P := P) (n := 30) (f := f25) rfl rfl (law_fv (ns := ns) (n := 21) : fv (fns P 30) 25 [.lst (ns.map PV.int)] = some (.sh (.bl true)))
theorem scope_mk {N ps : List Str} {sc : Scope} (h : (decide (sc.kind = .function) && !sc.isCoroutine && !sc.isGenerator && decide N.Nodup && decide (N.take ps.length = ps) && (ps.all fun x => decide (sc.names.lookup x = some .local ∨ sc.names.lookup x = some .cell)) && sc.names.all fun y => decide (y.2 ≠ .free)) = true) : FnScope N ps sc := by
  simp only [Bool.and_eq_true, decide_eq_true_eq, List.all_eq_true, Bool.not_eq_true'] at h
  obtain ⟨⟨⟨⟨⟨⟨h1, h2⟩, h3⟩, h4⟩, h5⟩, h6⟩, h7⟩ := h
  exact ⟨h1, h2, h3, h4, h5, h6, h7⟩
theorem Sx0 : FnScope f0.N f0.ps (defScope (topS 1)) := scope_mk (by decide +kernel)
theorem Ck0 : chkSs P Gl Db f0.N (lentIx 0 f0.lent) (defScope (topS 1)) f0.body (defBody (topS 1)) = true := by decide +kernel
theorem Sx1 : FnScope f1.N f1.ps (defScope (topS 9)) := scope_mk (by decide +kernel)
theorem Ck1 : chkSs P Gl Db f1.N (lentIx 0 f1.lent) (defScope (topS 9)) f1.body (defBody (topS 9)) = true := by decide +kernel
theorem Sx2 : FnScope f2.N f2.ps (defScope (topS 10)) := scope_mk (by decide +kernel)
theorem Ck2 : chkSs P Gl Db f2.N (lentIx 0 f2.lent) (defScope (topS 10)) f2.body (defBody (topS 10)) = true := by decide +kernel
theorem Sx3 : FnScope f3.N f3.ps (defScope (topS 13)) := scope_mk (by decide +kernel)
theorem Ck3 : chkSs P Gl Db f3.N (lentIx 0 f3.lent) (defScope (topS 13)) f3.body (defBody (topS 13)) = true := by decide +kernel
theorem Sx4 : FnScope f4.N f4.ps (defScope (topS 14)) := scope_mk (by decide +kernel)
theorem Ck4 : chkSs P Gl Db f4.N (lentIx 0 f4.lent) (defScope (topS 14)) f4.body (defBody (topS 14)) = true := by decide +kernel
theorem Sx5 : FnScope f5.N f5.ps (defScope (topS 15)) := scope_mk (by decide +kernel)
theorem Ck5 : chkSs P Gl Db f5.N (lentIx 0 f5.lent) (defScope (topS 15)) f5.body (defBody (topS 15)) = true := by decide +kernel
theorem Sx6 : FnScope f6.N f6.ps (defScope (topS 16)) := scope_mk (by decide +kernel)
theorem Ck6 : chkSs P Gl Db f6.N (lentIx 0 f6.lent) (defScope (topS 16)) f6.body (defBody (topS 16)) = true := by decide +kernel
theorem Sx7 : FnScope f7.N f7.ps (defScope (topS 17)) := scope_mk (by decide +kernel)
theorem Ck7 : chkSs P Gl Db f7.N (lentIx 0 f7.lent) (defScope (topS 17)) f7.body (defBody (topS 17)) = true := by decide +kernel
theorem Sx8 : FnScope f8.N f8.ps (defScope (topS 18)) := scope_mk (by decide +kernel)
theorem Ck8 : chkSs P Gl Db f8.N (lentIx 0 f8.lent) (defScope (topS 18)) f8.body (defBody (topS 18)) = true := by decide +kernel
theorem Sx9 : FnScope f9.N f9.ps (defScope (topS 19)) := scope_mk (by decide +kernel)
theorem Ck9 : chkSs P Gl Db f9.N (lentIx 0 f9.lent) (defScope (topS 19)) f9.body (defBody (topS 19)) = true := by decide +kernel
theorem Sx10 : FnScope f10.N f10.ps (defScope (topS 20)) := scope_mk (by decide +kernel)
theorem Ck10 : chkSs P Gl Db f10.N (lentIx 0 f10.lent) (defScope (topS 20)) f10.body (defBody (topS 20)) = true := by decide +kernel
theorem Sx11 : FnScope f11.N f11.ps (defScope (inClass (topS 21) 0)) := scope_mk (by decide +kernel)
theorem Ck11 : chkSs P Gl Db f11.N (lentIx 0 f11.lent) (defScope (inClass (topS 21) 0)) f11.body (defBody (inClass (topS 21) 0)) = true := by decide +kernel
theorem Sx12 : FnScope f12.N f12.ps (defScope (inClass (topS 21) 1)) := scope_mk (by decide +kernel)
theorem Ck12 : chkSs P Gl Db f12.N (lentIx 0 f12.lent) (defScope (inClass (topS 21) 1)) f12.body (defBody (inClass (topS 21) 1)) = true := by decide +kernel
theorem Sx13 : FnScope f13.N f13.ps (defScope (inClass (topS 21) 2)) := scope_mk (by decide +kernel)
theorem Ck13 : chkSs P Gl Db f13.N (lentIx 0 f13.lent) (defScope (inClass (topS 21) 2)) f13.body (defBody (inClass (topS 21) 2)) = true := by decide +kernel
theorem Sx14 : FnScope f14.N f14.ps (defScope (inClass (topS 21) 3)) := scope_mk (by decide +kernel)
theorem Ck14 : chkSs P Gl Db f14.N (lentIx 0 f14.lent) (defScope (inClass (topS 21) 3)) f14.body (defBody (inClass (topS 21) 3)) = true := by decide +kernel
theorem Sx15 : FnScope f15.N f15.ps (defScope (inClass (topS 21) 4)) := scope_mk (by decide +kernel)
theorem Ck15 : chkSs P Gl Db f15.N (lentIx 0 f15.lent) (defScope (inClass (topS 21) 4)) f15.body (defBody (inClass (topS 21) 4)) = true := by decide +kernel
theorem Sx16 : FnScope f16.N f16.ps (defScope (inClass (topS 21) 5)) := scope_mk (by decide +kernel)
theorem Ck16 : chkSs P Gl Db f16.N (lentIx 0 f16.lent) (defScope (inClass (topS 21) 5)) f16.body (defBody (inClass (topS 21) 5)) = true := by decide +kernel
theorem Sx17 : FnScope f17.N f17.ps (defScope (inClass (topS 21) 6)) := scope_mk (by decide +kernel)
theorem Ck17 : chkSs P Gl Db f17.N (lentIx 0 f17.lent) (defScope (inClass (topS 21) 6)) f17.body (defBody (inClass (topS 21) 6)) = true := by decide +kernel
theorem Sx18 : FnScope f18.N f18.ps (defScope (inClass (topS 21) 7)) := scope_mk (by decide +kernel)
theorem Ck18 : chkSs P Gl Db f18.N (lentIx 0 f18.lent) (defScope (inClass (topS 21) 7)) f18.body (defBody (inClass (topS 21) 7)) = true := by decide +kernel
theorem Sx19 : FnScope f19.N f19.ps (defScope (topS 22)) := scope_mk (by decide +kernel)
theorem Ck19 : chkSs P Gl Db f19.N (lentIx 0 f19.lent) (defScope (topS 22)) f19.body (defBody (topS 22)) = true := by decide +kernel
theorem Sx20 : FnScope f20.N f20.ps (defScope (topS 24)) := scope_mk (by decide +kernel)
theorem Ck20 : chkSs P Gl Db f20.N (lentIx 0 f20.lent) (defScope (topS 24)) f20.body (defBody (topS 24)) = true := by decide +kernel
theorem Sx21 : FnScope f21.N f21.ps (defScope (topS 25)) := scope_mk (by decide +kernel)
theorem Ck21 : chkSs P Gl Db f21.N (lentIx 0 f21.lent) (defScope (topS 25)) f21.body (defBody (topS 25)) = true := by decide +kernel
theorem Sx22 : FnScope f22.N f22.ps (defScope (topS 26)) := scope_mk (by decide +kernel)
theorem Ck22 : chkSs P Gl Db f22.N (lentIx 0 f22.lent) (defScope (topS 26)) f22.body (defBody (topS 26)) = true := by decide +kernel
theorem Sx23 : FnScope f23.N f23.ps (defScope (topS 27)) := scope_mk (by decide +kernel)
theorem Ck23 : chkSs P Gl Db f23.N (lentIx 0 f23.lent) (defScope (topS 27)) f23.body (defBody (topS 27)) = true := by decide +kernel
theorem Sx24 : FnScope f24.N f24.ps (defScope (topS 28)) := scope_mk (by decide +kernel)
theorem Ck24 : chkSs P Gl Db f24.N (lentIx 0 f24.lent) (defScope (topS 28)) f24.body (defBody (topS 28)) = true := by decide +kernel
theorem Sx25 : FnScope f25.N f25.ps (defScope (topS 29)) := scope_mk (by decide +kernel)
theorem Ck25 : chkSs P Gl Db f25.N (lentIx 0 f25.lent) (defScope (topS 29)) f25.body (defBody (topS 29)) = true := by decide +kernel
theorem fa_nil {α : Type} {p : α → Prop} : ∀ e ∈ ([] : List α), p e := fun e h => by cases h
theorem fa_cons {α : Type} {p : α → Prop} {a : α} {l : List α} (h : p a) (t : ∀ e ∈ l, p e) : ∀ e ∈ a :: l, p e := fun e h' => by
  rcases List.mem_cons.mp h' with rfl | h'
  · exact h
  · exact t e h'
set_option maxHeartbeats 0 in
theorem txts {K : PySem.W.Frag} {h : Heap} {mg : Str → Option Value} {C0 : Addr} {e0 e1 e2 e3 e4 e5 e6 e7 e8 e9 e10 e11 e12 e13 e14 e15 e16 e17 e18 e19 e20 e21 e22 e23 e24 e25 : Addr}  {oc0 : Value} {od0 an0 : Option Addr} {sl0 : Array (Option Value)} {kV0 dc0 pm0 cd0 ct0 : Value} {oc1 : Value} {od1 an1 : Option Addr} {sl1 : Array (Option Value)} {kV1 dc1 pm1 cd1 ct1 : Value} {oc2 : Value} {od2 an2 : Option Addr} {sl2 : Array (Option Value)} {kV2 dc2 pm2 cd2 ct2 : Value} {oc3 : Value} {od3 an3 : Option Addr} {sl3 : Array (Option Value)} {kV3 dc3 pm3 cd3 ct3 : Value} {oc4 : Value} {od4 an4 : Option Addr} {sl4 : Array (Option Value)} {kV4 dc4 pm4 cd4 ct4 : Value} {oc5 : Value} {od5 an5 : Option Addr} {sl5 : Array (Option Value)} {kV5 dc5 pm5 cd5 ct5 : Value} {oc6 : Value} {od6 an6 : Option Addr} {sl6 : Array (Option Value)} {kV6 dc6 pm6 cd6 ct6 : Value} {oc7 : Value} {od7 an7 : Option Addr} {sl7 : Array (Option Value)} {kV7 dc7 pm7 cd7 ct7 : Value} {oc8 : Value} {od8 an8 : Option Addr} {sl8 : Array (Option Value)} {kV8 dc8 pm8 cd8 ct8 : Value} {oc9 : Value} {od9 an9 : Option Addr} {sl9 : Array (Option Value)} {kV9 dc9 pm9 cd9 ct9 : Value} {oc10 : Value} {od10 an10 : Option Addr} {sl10 : Array (Option Value)} {kV10 dc10 pm10 cd10 ct10 : Value} {oc11 : Value} {od11 an11 : Option Addr} {sl11 : Array (Option Value)} {kV11 dc11 pm11 cd11 ct11 : Value} {oc12 : Value} {od12 an12 : Option Addr} {sl12 : Array (Option Value)} {kV12 dc12 pm12 cd12 ct12 : Value} {oc13 : Value} {od13 an13 : Option Addr} {sl13 : Array (Option Value)} {kV13 dc13 pm13 cd13 ct13 : Value} {oc14 : Value} {od14 an14 : Option Addr} {sl14 : Array (Option Value)} {kV14 dc14 pm14 cd14 ct14 : Value} {oc15 : Value} {od15 an15 : Option Addr} {sl15 : Array (Option Value)} {kV15 dc15 pm15 cd15 ct15 : Value} {oc16 : Value} {od16 an16 : Option Addr} {sl16 : Array (Option Value)} {kV16 dc16 pm16 cd16 ct16 : Value} {oc17 : Value} {od17 an17 : Option Addr} {sl17 : Array (Option Value)} {kV17 dc17 pm17 cd17 ct17 : Value} {oc18 : Value} {od18 an18 : Option Addr} {sl18 : Array (Option Value)} {kV18 dc18 pm18 cd18 ct18 : Value} {oc19 : Value} {od19 an19 : Option Addr} {sl19 : Array (Option Value)} {kV19 dc19 pm19 cd19 ct19 : Value} {oc20 : Value} {od20 an20 : Option Addr} {sl20 : Array (Option Value)} {kV20 dc20 pm20 cd20 ct20 : Value} {oc21 : Value} {od21 an21 : Option Addr} {sl21 : Array (Option Value)} {kV21 dc21 pm21 cd21 ct21 : Value} {oc22 : Value} {od22 an22 : Option Addr} {sl22 : Array (Option Value)} {kV22 dc22 pm22 cd22 ct22 : Value} {oc23 : Value} {od23 an23 : Option Addr} {sl23 : Array (Option Value)} {kV23 dc23 pm23 cd23 ct23 : Value} {oc24 : Value} {od24 an24 : Option Addr} {sl24 : Array (Option Value)} {kV24 dc24 pm24 cd24 ct24 : Value} {oc25 : Value} {od25 an25 : Option Addr} {sl25 : Array (Option Value)} {kV25 dc25 pm25 cd25 ct25 : Value} {t0 : Tok} {t1 : Tok} {t2 : Tok} {t3 : Tok} (X : K.In h) (G : h.Ns mainGlobals mg) (ac0 : PySem.W.nsIn K mainGlobals "Reader" = some (some (.ref C0)))
    (a0 : PySem.W.nsIn K mainGlobals "size_of" = some (some (.ref e0)))
    (a1 : PySem.W.nsIn K mainGlobals "is_name" = some (some (.ref e1)))
    (a2 : PySem.W.nsIn K mainGlobals "number_of" = some (some (.ref e2)))
    (a3 : PySem.W.nsIn K mainGlobals "named" = some (some (.ref e3)))
    (a4 : PySem.W.nsIn K mainGlobals "figure_of" = some (some (.ref e4)))
    (a5 : PySem.W.nsIn K mainGlobals "alike" = some (some (.ref e5)))
    (a6 : PySem.W.nsIn K mainGlobals "put_by" = some (some (.ref e6)))
    (a7 : PySem.W.nsIn K mainGlobals "here_by" = some (some (.ref e7)))
    (a8 : PySem.W.nsIn K mainGlobals "anew_by" = some (some (.ref e8)))
    (a9 : PySem.W.nsIn K mainGlobals "short_by" = some (some (.ref e9)))
    (a10 : PySem.W.nsIn K mainGlobals "deed_by" = some (some (.ref e10)))
    (a19 : PySem.W.nsIn K mainGlobals "read" = some (some (.ref e19)))
    (a20 : PySem.W.nsIn K mainGlobals "_law_draw" = some (some (.ref e20)))
    (a21 : PySem.W.nsIn K mainGlobals "_law_same" = some (some (.ref e21)))
    (a22 : PySem.W.nsIn K mainGlobals "_law_names" = some (some (.ref e22)))
    (a23 : PySem.W.nsIn K mainGlobals "_law_shut" = some (some (.ref e23)))
    (a24 : PySem.W.nsIn K mainGlobals "_law_row" = some (some (.ref e24)))
    (a25 : PySem.W.nsIn K mainGlobals "law" = some (some (.ref e25)))
    (in0 : PySem.W.findIn K (.ref C0) "__init__" = some (some (.ref e11)))
    (m_Reader_made : PySem.W.findIn K (.ref C0) "made" = some (some (.ref e18)))
    (m_Reader_ended : PySem.W.findIn K (.ref C0) "ended" = some (some (.ref e17)))
    (m_Reader_take : PySem.W.findIn K (.ref C0) "take" = some (some (.ref e12)))
    (m_Reader_take_box : PySem.W.findIn K (.ref C0) "take_box" = some (some (.ref e13)))
    (m_Reader_take_bell : PySem.W.findIn K (.ref C0) "take_bell" = some (some (.ref e14)))
    (m_Reader_take_row : PySem.W.findIn K (.ref C0) "take_row" = some (some (.ref e15)))
    (m_Reader_take_shut : PySem.W.findIn K (.ref C0) "take_shut" = some (some (.ref e16)))
    (l0 : K.lookup e0 = some ⟨oc0, od0, .func (PySem.W.fnOf "size_of" "size_of" (defArgs (topS 1)) (defBody (topS 1)) (defScope (topS 1)) .none kV0 dc0 pm0 an0 cd0 ct0), sl0⟩)
    (c0 : PySem.W.codeIn K cd0 "size_of" = true)
    (k0 : PySem.W.keepIn K (.ref e0) = true)
    (l1 : K.lookup e1 = some ⟨oc1, od1, .func (PySem.W.fnOf "is_name" "is_name" (defArgs (topS 9)) (defBody (topS 9)) (defScope (topS 9)) .none kV1 dc1 pm1 an1 cd1 ct1), sl1⟩)
    (c1 : PySem.W.codeIn K cd1 "is_name" = true)
    (k1 : PySem.W.keepIn K (.ref e1) = true)
    (l2 : K.lookup e2 = some ⟨oc2, od2, .func (PySem.W.fnOf "number_of" "number_of" (defArgs (topS 10)) (defBody (topS 10)) (defScope (topS 10)) .none kV2 dc2 pm2 an2 cd2 ct2), sl2⟩)
    (c2 : PySem.W.codeIn K cd2 "number_of" = true)
    (k2 : PySem.W.keepIn K (.ref e2) = true)
    (l3 : K.lookup e3 = some ⟨oc3, od3, .func (PySem.W.fnOf "named" "named" (defArgs (topS 13)) (defBody (topS 13)) (defScope (topS 13)) .none kV3 dc3 pm3 an3 cd3 ct3), sl3⟩)
    (c3 : PySem.W.codeIn K cd3 "named" = true)
    (k3 : PySem.W.keepIn K (.ref e3) = true)
    (l4 : K.lookup e4 = some ⟨oc4, od4, .func (PySem.W.fnOf "figure_of" "figure_of" (defArgs (topS 14)) (defBody (topS 14)) (defScope (topS 14)) .none kV4 dc4 pm4 an4 cd4 ct4), sl4⟩)
    (c4 : PySem.W.codeIn K cd4 "figure_of" = true)
    (k4 : PySem.W.keepIn K (.ref e4) = true)
    (l5 : K.lookup e5 = some ⟨oc5, od5, .func (PySem.W.fnOf "alike" "alike" (defArgs (topS 15)) (defBody (topS 15)) (defScope (topS 15)) .none kV5 dc5 pm5 an5 cd5 ct5), sl5⟩)
    (c5 : PySem.W.codeIn K cd5 "alike" = true)
    (k5 : PySem.W.keepIn K (.ref e5) = true)
    (l6 : K.lookup e6 = some ⟨oc6, od6, .func (PySem.W.fnOf "put_by" "put_by" (defArgs (topS 16)) (defBody (topS 16)) (defScope (topS 16)) .none kV6 dc6 pm6 an6 cd6 ct6), sl6⟩)
    (c6 : PySem.W.codeIn K cd6 "put_by" = true)
    (k6 : PySem.W.keepIn K (.ref e6) = true)
    (l7 : K.lookup e7 = some ⟨oc7, od7, .func (PySem.W.fnOf "here_by" "here_by" (defArgs (topS 17)) (defBody (topS 17)) (defScope (topS 17)) .none kV7 dc7 pm7 an7 cd7 ct7), sl7⟩)
    (c7 : PySem.W.codeIn K cd7 "here_by" = true)
    (k7 : PySem.W.keepIn K (.ref e7) = true)
    (l8 : K.lookup e8 = some ⟨oc8, od8, .func (PySem.W.fnOf "anew_by" "anew_by" (defArgs (topS 18)) (defBody (topS 18)) (defScope (topS 18)) .none kV8 dc8 pm8 an8 cd8 ct8), sl8⟩)
    (c8 : PySem.W.codeIn K cd8 "anew_by" = true)
    (k8 : PySem.W.keepIn K (.ref e8) = true)
    (l9 : K.lookup e9 = some ⟨oc9, od9, .func (PySem.W.fnOf "short_by" "short_by" (defArgs (topS 19)) (defBody (topS 19)) (defScope (topS 19)) .none kV9 dc9 pm9 an9 cd9 ct9), sl9⟩)
    (c9 : PySem.W.codeIn K cd9 "short_by" = true)
    (k9 : PySem.W.keepIn K (.ref e9) = true)
    (l10 : K.lookup e10 = some ⟨oc10, od10, .func (PySem.W.fnOf "deed_by" "deed_by" (defArgs (topS 20)) (defBody (topS 20)) (defScope (topS 20)) .none kV10 dc10 pm10 an10 cd10 ct10), sl10⟩)
    (c10 : PySem.W.codeIn K cd10 "deed_by" = true)
    (k10 : PySem.W.keepIn K (.ref e10) = true)
    (l11 : K.lookup e11 = some ⟨oc11, od11, .func (PySem.W.fnOf "__init__" "Reader.__init__" (defArgs (inClass (topS 21) 0)) (defBody (inClass (topS 21) 0)) (defScope (inClass (topS 21) 0)) .none kV11 dc11 pm11 an11 cd11 ct11), sl11⟩)
    (c11 : PySem.W.codeIn K cd11 "Reader.__init__" = true)
    (k11 : PySem.W.keepIn K (.ref e11) = true)
    (i11 : PySem.W.isFn K (.ref e11) = true)
    (l12 : K.lookup e12 = some ⟨oc12, od12, .func (PySem.W.fnOf "take" "Reader.take" (defArgs (inClass (topS 21) 1)) (defBody (inClass (topS 21) 1)) (defScope (inClass (topS 21) 1)) .none kV12 dc12 pm12 an12 cd12 ct12), sl12⟩)
    (c12 : PySem.W.codeIn K cd12 "Reader.take" = true)
    (k12 : PySem.W.keepIn K (.ref e12) = true)
    (i12 : PySem.W.isFn K (.ref e12) = true)
    (l13 : K.lookup e13 = some ⟨oc13, od13, .func (PySem.W.fnOf "take_box" "Reader.take_box" (defArgs (inClass (topS 21) 2)) (defBody (inClass (topS 21) 2)) (defScope (inClass (topS 21) 2)) .none kV13 dc13 pm13 an13 cd13 ct13), sl13⟩)
    (c13 : PySem.W.codeIn K cd13 "Reader.take_box" = true)
    (k13 : PySem.W.keepIn K (.ref e13) = true)
    (i13 : PySem.W.isFn K (.ref e13) = true)
    (l14 : K.lookup e14 = some ⟨oc14, od14, .func (PySem.W.fnOf "take_bell" "Reader.take_bell" (defArgs (inClass (topS 21) 3)) (defBody (inClass (topS 21) 3)) (defScope (inClass (topS 21) 3)) .none kV14 dc14 pm14 an14 cd14 ct14), sl14⟩)
    (c14 : PySem.W.codeIn K cd14 "Reader.take_bell" = true)
    (k14 : PySem.W.keepIn K (.ref e14) = true)
    (i14 : PySem.W.isFn K (.ref e14) = true)
    (l15 : K.lookup e15 = some ⟨oc15, od15, .func (PySem.W.fnOf "take_row" "Reader.take_row" (defArgs (inClass (topS 21) 4)) (defBody (inClass (topS 21) 4)) (defScope (inClass (topS 21) 4)) .none kV15 dc15 pm15 an15 cd15 ct15), sl15⟩)
    (c15 : PySem.W.codeIn K cd15 "Reader.take_row" = true)
    (k15 : PySem.W.keepIn K (.ref e15) = true)
    (i15 : PySem.W.isFn K (.ref e15) = true)
    (l16 : K.lookup e16 = some ⟨oc16, od16, .func (PySem.W.fnOf "take_shut" "Reader.take_shut" (defArgs (inClass (topS 21) 5)) (defBody (inClass (topS 21) 5)) (defScope (inClass (topS 21) 5)) .none kV16 dc16 pm16 an16 cd16 ct16), sl16⟩)
    (c16 : PySem.W.codeIn K cd16 "Reader.take_shut" = true)
    (k16 : PySem.W.keepIn K (.ref e16) = true)
    (i16 : PySem.W.isFn K (.ref e16) = true)
    (l17 : K.lookup e17 = some ⟨oc17, od17, .func (PySem.W.fnOf "ended" "Reader.ended" (defArgs (inClass (topS 21) 6)) (defBody (inClass (topS 21) 6)) (defScope (inClass (topS 21) 6)) .none kV17 dc17 pm17 an17 cd17 ct17), sl17⟩)
    (c17 : PySem.W.codeIn K cd17 "Reader.ended" = true)
    (k17 : PySem.W.keepIn K (.ref e17) = true)
    (i17 : PySem.W.isFn K (.ref e17) = true)
    (l18 : K.lookup e18 = some ⟨oc18, od18, .func (PySem.W.fnOf "made" "Reader.made" (defArgs (inClass (topS 21) 7)) (defBody (inClass (topS 21) 7)) (defScope (inClass (topS 21) 7)) .none kV18 dc18 pm18 an18 cd18 ct18), sl18⟩)
    (c18 : PySem.W.codeIn K cd18 "Reader.made" = true)
    (k18 : PySem.W.keepIn K (.ref e18) = true)
    (i18 : PySem.W.isFn K (.ref e18) = true)
    (l19 : K.lookup e19 = some ⟨oc19, od19, .func (PySem.W.fnOf "read" "read" (defArgs (topS 22)) (defBody (topS 22)) (defScope (topS 22)) .none kV19 dc19 pm19 an19 cd19 ct19), sl19⟩)
    (c19 : PySem.W.codeIn K cd19 "read" = true)
    (k19 : PySem.W.keepIn K (.ref e19) = true)
    (l20 : K.lookup e20 = some ⟨oc20, od20, .func (PySem.W.fnOf "_law_draw" "_law_draw" (defArgs (topS 24)) (defBody (topS 24)) (defScope (topS 24)) .none kV20 dc20 pm20 an20 cd20 ct20), sl20⟩)
    (c20 : PySem.W.codeIn K cd20 "_law_draw" = true)
    (k20 : PySem.W.keepIn K (.ref e20) = true)
    (l21 : K.lookup e21 = some ⟨oc21, od21, .func (PySem.W.fnOf "_law_same" "_law_same" (defArgs (topS 25)) (defBody (topS 25)) (defScope (topS 25)) .none kV21 dc21 pm21 an21 cd21 ct21), sl21⟩)
    (c21 : PySem.W.codeIn K cd21 "_law_same" = true)
    (k21 : PySem.W.keepIn K (.ref e21) = true)
    (l22 : K.lookup e22 = some ⟨oc22, od22, .func (PySem.W.fnOf "_law_names" "_law_names" (defArgs (topS 26)) (defBody (topS 26)) (defScope (topS 26)) .none kV22 dc22 pm22 an22 cd22 ct22), sl22⟩)
    (c22 : PySem.W.codeIn K cd22 "_law_names" = true)
    (k22 : PySem.W.keepIn K (.ref e22) = true)
    (l23 : K.lookup e23 = some ⟨oc23, od23, .func (PySem.W.fnOf "_law_shut" "_law_shut" (defArgs (topS 27)) (defBody (topS 27)) (defScope (topS 27)) .none kV23 dc23 pm23 an23 cd23 ct23), sl23⟩)
    (c23 : PySem.W.codeIn K cd23 "_law_shut" = true)
    (k23 : PySem.W.keepIn K (.ref e23) = true)
    (l24 : K.lookup e24 = some ⟨oc24, od24, .func (PySem.W.fnOf "_law_row" "_law_row" (defArgs (topS 28)) (defBody (topS 28)) (defScope (topS 28)) .none kV24 dc24 pm24 an24 cd24 ct24), sl24⟩)
    (c24 : PySem.W.codeIn K cd24 "_law_row" = true)
    (k24 : PySem.W.keepIn K (.ref e24) = true)
    (l25 : K.lookup e25 = some ⟨oc25, od25, .func (PySem.W.fnOf "law" "law" (defArgs (topS 29)) (defBody (topS 29)) (defScope (topS 29)) .none kV25 dc25 pm25 an25 cd25 ct25), sl25⟩)
    (c25 : PySem.W.codeIn K cd25 "law" = true)
    (k25 : PySem.W.keepIn K (.ref e25) = true)
    (pg0 : PySem.W.plainGet K C0 Str.empty = true)
    (hd0 : PySem.W.hasDictIn K C0 = true)
    (po0 : PySem.W.plainOver K C0 = true)
    (sa0 : PySem.W.findIn K (.ref C0) "__setattr__" = some (some (.builtin "object.__setattr__")))
    (n0_at : PySem.W.findIn K (.ref C0) "at" = some none)
    (n0_bells : PySem.W.findIn K (.ref C0) "bells" = some none)
    (n0_boxes : PySem.W.findIn K (.ref C0) "boxes" = some none)
    (n0_places : PySem.W.findIn K (.ref C0) "places" = some none)
    (n0_rows : PySem.W.findIn K (.ref C0) "rows" = some none)
    (n0_stretches : PySem.W.findIn K (.ref C0) "stretches" = some none)
    (mk0 : PySem.W.makesIn K C0 = true)
    (kc0 : PySem.W.keepIn K (.ref C0) = true)
    (gc0 : PySem.W.nsIn K mainGlobals "BOUND" = some (some (.int 1000000000 t0)))
    (gc1 : PySem.W.nsIn K mainGlobals "FIGURES" = some (some (.str "0123456789" t1)))
    (gc2 : PySem.W.nsIn K mainGlobals "RANKS" = some (some (.str "123456789" t2)))
    (gc3 : PySem.W.nsIn K mainGlobals "LETTERS" = some (some (.str "abcdefghijklmnopqrstuvwxyz" t3)))
    (z0 : PySem.W.nsIn K mainGlobals "int" = some none)
    (z1 : PySem.W.nsIn K mainGlobals "str" = some none)
    (z2 : PySem.W.nsIn K mainGlobals "list" = some none)
    (z3 : PySem.W.nsIn K mainGlobals "tuple" = some none)
    (z4 : PySem.W.nsIn K mainGlobals "len" = some none)
    (z5 : PySem.W.nsIn K mainGlobals "sum" = some none)
    (z6 : PySem.W.nsIn K mainGlobals "all" = some none)
    (z7 : PySem.W.nsIn K mainGlobals "any" = some none)
    (z8 : PySem.W.nsIn K mainGlobals "abs" = some none)
    (z9 : PySem.W.nsIn K mainGlobals "max" = some none)
    (z10 : PySem.W.nsIn K mainGlobals "min" = some none)
    (z11 : PySem.W.nsIn K mainGlobals "sorted" = some none)
    (z12 : PySem.W.nsIn K mainGlobals "bool" = some none)
    (z13 : PySem.W.nsIn K mainGlobals "isinstance" = some none)
    (z14 : PySem.W.nsIn K mainGlobals "range" = some none)
    (z15 : PySem.W.nsIn K mainGlobals "enumerate" = some none)
    (z16 : PySem.W.nsIn K mainGlobals "zip" = some none)
    (z17 : PySem.W.nsIn K mainGlobals "reversed" = some none)
    (z18 : PySem.W.nsIn K mainGlobals "set" = some none)
    (z19 : PySem.W.nsIn K mainGlobals "dict" = some none) : @Txts (RG []) K mg (fun i => ([e0, e1, e2, e3, e4, e5, e6, e7, e8, e9, e10, e11, e12, e13, e14, e15, e16, e17, e18, e19, e20, e21, e22, e23, e24, e25] : List Addr).getD i e0) P Gl Db [] := by
  have K0 : Cls K C0 := ⟨pg0, hd0, po0, sa0⟩
  letI : Reg := RG []
  refine ⟨fun g f hg hk => ?_, fun g f hg hk => ?_, fun g f hg hk => ?_, fun g h => ?_, by decide, fun g f hg hk => ?_, fun c f h => ?_, fun t tb h => ?_, rfl, rfl, by decide, by decide, fun c m g h => ?_, fun c m g h => ?_, fun c g h => ?_, fun c n h1 h2 => ?_, fun c h => ?_, fun n hn => ?_, fun g hg => ?_⟩
  · match g, hg with
    | 0, hg =>
      obtain rfl : f0 = f := Option.some.inj hg
      exact ⟨(topS 1), _, funY_mk (st := (topS 1)) l0 c0 k0, Sx0, Ck0, (fun _ => PySem.W.mg_of X G a0), binds_all (fun us hl => (match us, hl with | [_, _], _ => rfl)), by decide, (fun d h => nomatch (show (none : Option Int) = some d from h))⟩
    | 1, hg =>
      obtain rfl : f1 = f := Option.some.inj hg
      exact ⟨(topS 9), _, funY_mk (st := (topS 9)) l1 c1 k1, Sx1, Ck1, (fun _ => PySem.W.mg_of X G a1), binds_all (fun us hl => (match us, hl with | [_], _ => rfl)), by decide, (fun d h => nomatch (show (none : Option Int) = some d from h))⟩
    | 2, hg =>
      obtain rfl : f2 = f := Option.some.inj hg
      exact ⟨(topS 10), _, funY_mk (st := (topS 10)) l2 c2 k2, Sx2, Ck2, (fun _ => PySem.W.mg_of X G a2), binds_all (fun us hl => (match us, hl with | [_], _ => rfl)), by decide, (fun d h => nomatch (show (none : Option Int) = some d from h))⟩
    | 3, hg =>
      obtain rfl : f3 = f := Option.some.inj hg
      exact ⟨(topS 13), _, funY_mk (st := (topS 13)) l3 c3 k3, Sx3, Ck3, (fun _ => PySem.W.mg_of X G a3), binds_all (fun us hl => (match us, hl with | [_, _], _ => rfl)), by decide, (fun d h => nomatch (show (none : Option Int) = some d from h))⟩
    | 4, hg =>
      obtain rfl : f4 = f := Option.some.inj hg
      exact ⟨(topS 14), _, funY_mk (st := (topS 14)) l4 c4 k4, Sx4, Ck4, (fun _ => PySem.W.mg_of X G a4), binds_all (fun us hl => (match us, hl with | [_], _ => rfl)), by decide, (fun d h => nomatch (show (none : Option Int) = some d from h))⟩
    | 5, hg =>
      obtain rfl : f5 = f := Option.some.inj hg
      exact ⟨(topS 15), _, funY_mk (st := (topS 15)) l5 c5 k5, Sx5, Ck5, (fun _ => PySem.W.mg_of X G a5), binds_all (fun us hl => (match us, hl with | [_, _, _], _ => rfl)), by decide, (fun d h => nomatch (show (none : Option Int) = some d from h))⟩
    | 6, hg =>
      obtain rfl : f6 = f := Option.some.inj hg
      exact ⟨(topS 16), _, funY_mk (st := (topS 16)) l6 c6 k6, Sx6, Ck6, (fun _ => PySem.W.mg_of X G a6), binds_all (fun us hl => (match us, hl with | [_, _], _ => rfl)), by decide, (fun d h => nomatch (show (none : Option Int) = some d from h))⟩
    | 7, hg =>
      obtain rfl : f7 = f := Option.some.inj hg
      exact ⟨(topS 17), _, funY_mk (st := (topS 17)) l7 c7 k7, Sx7, Ck7, (fun _ => PySem.W.mg_of X G a7), binds_all (fun us hl => (match us, hl with | [_, _], _ => rfl)), by decide, (fun d h => nomatch (show (none : Option Int) = some d from h))⟩
    | 8, hg =>
      obtain rfl : f8 = f := Option.some.inj hg
      exact ⟨(topS 18), _, funY_mk (st := (topS 18)) l8 c8 k8, Sx8, Ck8, (fun _ => PySem.W.mg_of X G a8), binds_all (fun us hl => (match us, hl with | [_, _], _ => rfl)), by decide, (fun d h => nomatch (show (none : Option Int) = some d from h))⟩
    | 9, hg =>
      obtain rfl : f9 = f := Option.some.inj hg
      exact ⟨(topS 19), _, funY_mk (st := (topS 19)) l9 c9 k9, Sx9, Ck9, (fun _ => PySem.W.mg_of X G a9), binds_all (fun us hl => (match us, hl with | [_, _], _ => rfl)), by decide, (fun d h => nomatch (show (none : Option Int) = some d from h))⟩
    | 10, hg =>
      obtain rfl : f10 = f := Option.some.inj hg
      exact ⟨(topS 20), _, funY_mk (st := (topS 20)) l10 c10 k10, Sx10, Ck10, (fun _ => PySem.W.mg_of X G a10), binds_all (fun us hl => (match us, hl with | [_, _], _ => rfl)), by decide, (fun d h => nomatch (show (none : Option Int) = some d from h))⟩
    | 11, hg =>
      obtain rfl : f11 = f := Option.some.inj hg
      exact ⟨(inClass (topS 21) 0), _, funY_mk (st := (inClass (topS 21) 0)) l11 c11 k11, Sx11, Ck11, (fun h => by cases h), binds_all (fun us hl => (match us, hl with | [_], _ => rfl)), by decide, (fun d h => nomatch (show (none : Option Int) = some d from h))⟩
    | 12, hg =>
      obtain rfl : f12 = f := Option.some.inj hg
      exact ⟨(inClass (topS 21) 1), _, funY_mk (st := (inClass (topS 21) 1)) l12 c12 k12, Sx12, Ck12, (fun h => by cases h), binds_all (fun us hl => (match us, hl with | [_, _], _ => rfl)), by decide, (fun d h => nomatch (show (none : Option Int) = some d from h))⟩
    | 13, hg =>
      obtain rfl : f13 = f := Option.some.inj hg
      exact ⟨(inClass (topS 21) 2), _, funY_mk (st := (inClass (topS 21) 2)) l13 c13 k13, Sx13, Ck13, (fun h => by cases h), binds_all (fun us hl => (match us, hl with | [_, _], _ => rfl)), by decide, (fun d h => nomatch (show (none : Option Int) = some d from h))⟩
    | 14, hg =>
      obtain rfl : f14 = f := Option.some.inj hg
      exact ⟨(inClass (topS 21) 3), _, funY_mk (st := (inClass (topS 21) 3)) l14 c14 k14, Sx14, Ck14, (fun h => by cases h), binds_all (fun us hl => (match us, hl with | [_, _], _ => rfl)), by decide, (fun d h => nomatch (show (none : Option Int) = some d from h))⟩
    | 15, hg =>
      obtain rfl : f15 = f := Option.some.inj hg
      exact ⟨(inClass (topS 21) 4), _, funY_mk (st := (inClass (topS 21) 4)) l15 c15 k15, Sx15, Ck15, (fun h => by cases h), binds_all (fun us hl => (match us, hl with | [_, _], _ => rfl)), by decide, (fun d h => nomatch (show (none : Option Int) = some d from h))⟩
    | 16, hg =>
      obtain rfl : f16 = f := Option.some.inj hg
      exact ⟨(inClass (topS 21) 5), _, funY_mk (st := (inClass (topS 21) 5)) l16 c16 k16, Sx16, Ck16, (fun h => by cases h), binds_all (fun us hl => (match us, hl with | [_, _], _ => rfl)), by decide, (fun d h => nomatch (show (none : Option Int) = some d from h))⟩
    | 17, hg =>
      obtain rfl : f17 = f := Option.some.inj hg
      exact ⟨(inClass (topS 21) 6), _, funY_mk (st := (inClass (topS 21) 6)) l17 c17 k17, Sx17, Ck17, (fun h => by cases h), binds_all (fun us hl => (match us, hl with | [_], _ => rfl)), by decide, (fun d h => nomatch (show (none : Option Int) = some d from h))⟩
    | 18, hg =>
      obtain rfl : f18 = f := Option.some.inj hg
      exact ⟨(inClass (topS 21) 7), _, funY_mk (st := (inClass (topS 21) 7)) l18 c18 k18, Sx18, Ck18, (fun h => by cases h), binds_all (fun us hl => (match us, hl with | [_], _ => rfl)), by decide, (fun d h => nomatch (show (none : Option Int) = some d from h))⟩
    | 19, hg =>
      obtain rfl : f19 = f := Option.some.inj hg
      exact ⟨(topS 22), _, funY_mk (st := (topS 22)) l19 c19 k19, Sx19, Ck19, (fun _ => PySem.W.mg_of X G a19), binds_all (fun us hl => (match us, hl with | [_], _ => rfl)), by decide, (fun d h => nomatch (show (none : Option Int) = some d from h))⟩
    | 20, hg =>
      obtain rfl : f20 = f := Option.some.inj hg
      exact ⟨(topS 24), _, funY_mk (st := (topS 24)) l20 c20 k20, Sx20, Ck20, (fun _ => PySem.W.mg_of X G a20), binds_all (fun us hl => (match us, hl with | [_, _, _], _ => rfl)), by decide, (fun d h => nomatch (show (none : Option Int) = some d from h))⟩
    | 21, hg =>
      obtain rfl : f21 = f := Option.some.inj hg
      exact ⟨(topS 25), _, funY_mk (st := (topS 25)) l21 c21 k21, Sx21, Ck21, (fun _ => PySem.W.mg_of X G a21), binds_all (fun us hl => (match us, hl with | [_, _], _ => rfl)), by decide, (fun d h => nomatch (show (none : Option Int) = some d from h))⟩
    | 22, hg =>
      obtain rfl : f22 = f := Option.some.inj hg
      exact ⟨(topS 26), _, funY_mk (st := (topS 26)) l22 c22 k22, Sx22, Ck22, (fun _ => PySem.W.mg_of X G a22), binds_all (fun us hl => (match us, hl with | [_, _, _], _ => rfl)), by decide, (fun d h => nomatch (show (none : Option Int) = some d from h))⟩
    | 23, hg =>
      obtain rfl : f23 = f := Option.some.inj hg
      exact ⟨(topS 27), _, funY_mk (st := (topS 27)) l23 c23 k23, Sx23, Ck23, (fun _ => PySem.W.mg_of X G a23), binds_all (fun us hl => (match us, hl with | [_, _, _], _ => rfl)), by decide, (fun d h => nomatch (show (none : Option Int) = some d from h))⟩
    | 24, hg =>
      obtain rfl : f24 = f := Option.some.inj hg
      exact ⟨(topS 28), _, funY_mk (st := (topS 28)) l24 c24 k24, Sx24, Ck24, (fun _ => PySem.W.mg_of X G a24), binds_all (fun us hl => (match us, hl with | [_, _, _, _], _ => rfl)), by decide, (fun d h => nomatch (show (none : Option Int) = some d from h))⟩
    | 25, hg =>
      obtain rfl : f25 = f := Option.some.inj hg
      exact ⟨(topS 29), _, funY_mk (st := (topS 29)) l25 c25 k25, Sx25, Ck25, (fun _ => PySem.W.mg_of X G a25), binds_all (fun us hl => (match us, hl with | [_], _ => rfl)), by decide, (fun d h => nomatch (show (none : Option Int) = some d from h))⟩
  · have q : ∀ f ∈ P, f.kd ≠ 1 := by decide
    exact absurd hk (q f (List.mem_of_getElem? hg))
  · have q : ∀ f ∈ P, f.kd ≠ 2 := by decide
    exact absurd hk (q f (List.mem_of_getElem? hg))
  · cases h
  · have q : ∀ f ∈ P, f.kd ≠ 3 := by decide
    exact absurd hk (q f (List.mem_of_getElem? hg))
  · cases h
  · cases h
  · exact (show ∀ e ∈ Mt, ∃ C, ClsAt K e.1.1 C ∧ Cls K C ∧ Meth K C e.1.2 (([e0, e1, e2, e3, e4, e5, e6, e7, e8, e9, e10, e11, e12, e13, e14, e15, e16, e17, e18, e19, e20, e21, e22, e23, e24, e25] : List Addr).getD e.2 e0) from (fa_cons ⟨C0, ac0, K0, m_Reader_made, i18, k18⟩ (fa_cons ⟨C0, ac0, K0, m_Reader_ended, i17, k17⟩ (fa_cons ⟨C0, ac0, K0, m_Reader_take, i12, k12⟩ (fa_cons ⟨C0, ac0, K0, m_Reader_take_box, i13, k13⟩ (fa_cons ⟨C0, ac0, K0, m_Reader_take_bell, i14, k14⟩ (fa_cons ⟨C0, ac0, K0, m_Reader_take_row, i15, k15⟩ (fa_cons ⟨C0, ac0, K0, m_Reader_take_shut, i16, k16⟩ fa_nil)))))))) ((c, m), g) h
  · cases h
  · exact (show ∀ e ∈ Nw, ∃ C, ClsAt K e.1 C ∧ mg e.1 = some (.ref C) ∧ Mk K C (([e0, e1, e2, e3, e4, e5, e6, e7, e8, e9, e10, e11, e12, e13, e14, e15, e16, e17, e18, e19, e20, e21, e22, e23, e24, e25] : List Addr).getD e.2 e0) from (fa_cons ⟨C0, ac0, PySem.W.mg_of X G ac0, mk0, in0, i11, kc0⟩ fa_nil)) (c, g) h
  · exact (show ∀ c ∈ Dc, ∀ n ∈ Fl, ∃ C, ClsAt K c C ∧ Cls K C ∧ NoAttr K C n from (fa_cons (fa_cons ⟨C0, ac0, K0, n0_at⟩ (fa_cons ⟨C0, ac0, K0, n0_bells⟩ (fa_cons ⟨C0, ac0, K0, n0_boxes⟩ (fa_cons ⟨C0, ac0, K0, n0_places⟩ (fa_cons ⟨C0, ac0, K0, n0_rows⟩ (fa_cons ⟨C0, ac0, K0, n0_stretches⟩ fa_nil)))))) fa_nil)) c h1 n h2
  · obtain ⟨E, hE⟩ : ∃ E, ClsAt K c E := (show ∀ c ∈ Dc, ∃ E, ClsAt K c E from (fa_cons ⟨C0, ac0⟩ fa_nil)) c h
    exact ⟨E, PySem.W.mg_of X G hE, fun c' b hb => by cases hb⟩
  · simp only [bTypes, bFuns, List.cons_append, List.nil_append, List.contains_cons, List.contains_nil, Bool.or_eq_true, beq_iff_eq, Bool.or_false] at hn
    rcases hn with rfl | rfl | rfl | rfl | rfl | rfl | rfl | rfl | rfl | rfl | rfl | rfl | rfl | rfl | rfl | rfl | rfl | rfl | rfl | rfl
    · exact PySem.W.mg_none_of X G z0
    · exact PySem.W.mg_none_of X G z1
    · exact PySem.W.mg_none_of X G z2
    · exact PySem.W.mg_none_of X G z3
    · exact PySem.W.mg_none_of X G z4
    · exact PySem.W.mg_none_of X G z5
    · exact PySem.W.mg_none_of X G z6
    · exact PySem.W.mg_none_of X G z7
    · exact PySem.W.mg_none_of X G z8
    · exact PySem.W.mg_none_of X G z9
    · exact PySem.W.mg_none_of X G z10
    · exact PySem.W.mg_none_of X G z11
    · exact PySem.W.mg_none_of X G z12
    · exact PySem.W.mg_none_of X G z13
    · exact PySem.W.mg_none_of X G z14
    · exact PySem.W.mg_none_of X G z15
    · exact PySem.W.mg_none_of X G z16
    · exact PySem.W.mg_none_of X G z17
    · exact PySem.W.mg_none_of X G z18
    · exact PySem.W.mg_none_of X G z19
  · simp only [Gl, List.mem_cons, List.not_mem_nil, or_false] at hg
    rcases hg with rfl | rfl | rfl | rfl
    · exact ⟨.int _, _, PySem.W.mg_of X G gc0, ⟨t0, rfl⟩, fun M => .int _⟩
    · exact ⟨.str _, _, PySem.W.mg_of X G gc1, ⟨t1, rfl⟩, fun M => .str _⟩
    · exact ⟨.str _, _, PySem.W.mg_of X G gc2, ⟨t2, rfl⟩, fun M => .str _⟩
    · exact ⟨.str _, _, PySem.W.mg_of X G gc3, ⟨t3, rfl⟩, fun M => .str _⟩
set_option maxHeartbeats 0 in
theorem fin {q : Program} {w : World} {fa : Addr} {K : PySem.W.Frag} {h : Heap} {mg : Str → Option Value} {C0 : Addr} {e0 e1 e2 e3 e4 e5 e6 e7 e8 e9 e10 e11 e12 e13 e14 e15 e16 e17 e18 e19 e20 e21 e22 e23 e24 e25 : Addr}  {oc0 : Value} {od0 an0 : Option Addr} {sl0 : Array (Option Value)} {kV0 dc0 pm0 cd0 ct0 : Value} {oc1 : Value} {od1 an1 : Option Addr} {sl1 : Array (Option Value)} {kV1 dc1 pm1 cd1 ct1 : Value} {oc2 : Value} {od2 an2 : Option Addr} {sl2 : Array (Option Value)} {kV2 dc2 pm2 cd2 ct2 : Value} {oc3 : Value} {od3 an3 : Option Addr} {sl3 : Array (Option Value)} {kV3 dc3 pm3 cd3 ct3 : Value} {oc4 : Value} {od4 an4 : Option Addr} {sl4 : Array (Option Value)} {kV4 dc4 pm4 cd4 ct4 : Value} {oc5 : Value} {od5 an5 : Option Addr} {sl5 : Array (Option Value)} {kV5 dc5 pm5 cd5 ct5 : Value} {oc6 : Value} {od6 an6 : Option Addr} {sl6 : Array (Option Value)} {kV6 dc6 pm6 cd6 ct6 : Value} {oc7 : Value} {od7 an7 : Option Addr} {sl7 : Array (Option Value)} {kV7 dc7 pm7 cd7 ct7 : Value} {oc8 : Value} {od8 an8 : Option Addr} {sl8 : Array (Option Value)} {kV8 dc8 pm8 cd8 ct8 : Value} {oc9 : Value} {od9 an9 : Option Addr} {sl9 : Array (Option Value)} {kV9 dc9 pm9 cd9 ct9 : Value} {oc10 : Value} {od10 an10 : Option Addr} {sl10 : Array (Option Value)} {kV10 dc10 pm10 cd10 ct10 : Value} {oc11 : Value} {od11 an11 : Option Addr} {sl11 : Array (Option Value)} {kV11 dc11 pm11 cd11 ct11 : Value} {oc12 : Value} {od12 an12 : Option Addr} {sl12 : Array (Option Value)} {kV12 dc12 pm12 cd12 ct12 : Value} {oc13 : Value} {od13 an13 : Option Addr} {sl13 : Array (Option Value)} {kV13 dc13 pm13 cd13 ct13 : Value} {oc14 : Value} {od14 an14 : Option Addr} {sl14 : Array (Option Value)} {kV14 dc14 pm14 cd14 ct14 : Value} {oc15 : Value} {od15 an15 : Option Addr} {sl15 : Array (Option Value)} {kV15 dc15 pm15 cd15 ct15 : Value} {oc16 : Value} {od16 an16 : Option Addr} {sl16 : Array (Option Value)} {kV16 dc16 pm16 cd16 ct16 : Value} {oc17 : Value} {od17 an17 : Option Addr} {sl17 : Array (Option Value)} {kV17 dc17 pm17 cd17 ct17 : Value} {oc18 : Value} {od18 an18 : Option Addr} {sl18 : Array (Option Value)} {kV18 dc18 pm18 cd18 ct18 : Value} {oc19 : Value} {od19 an19 : Option Addr} {sl19 : Array (Option Value)} {kV19 dc19 pm19 cd19 ct19 : Value} {oc20 : Value} {od20 an20 : Option Addr} {sl20 : Array (Option Value)} {kV20 dc20 pm20 cd20 ct20 : Value} {oc21 : Value} {od21 an21 : Option Addr} {sl21 : Array (Option Value)} {kV21 dc21 pm21 cd21 ct21 : Value} {oc22 : Value} {od22 an22 : Option Addr} {sl22 : Array (Option Value)} {kV22 dc22 pm22 cd22 ct22 : Value} {oc23 : Value} {od23 an23 : Option Addr} {sl23 : Array (Option Value)} {kV23 dc23 pm23 cd23 ct23 : Value} {oc24 : Value} {od24 an24 : Option Addr} {sl24 : Array (Option Value)} {kV24 dc24 pm24 cd24 ct24 : Value} {oc25 : Value} {od25 an25 : Option Addr} {sl25 : Array (Option Value)} {kV25 dc25 pm25 cd25 ct25 : Value} {t0 : Tok} {t1 : Tok} {t2 : Tok} {t3 : Tok} (X : K.In h) (G : h.Ns mainGlobals mg) (HT : TabsOf q K h) (hmg : mg "law" = some (.ref fa)) (ac0 : PySem.W.nsIn K mainGlobals "Reader" = some (some (.ref C0)))
    (a0 : PySem.W.nsIn K mainGlobals "size_of" = some (some (.ref e0)))
    (a1 : PySem.W.nsIn K mainGlobals "is_name" = some (some (.ref e1)))
    (a2 : PySem.W.nsIn K mainGlobals "number_of" = some (some (.ref e2)))
    (a3 : PySem.W.nsIn K mainGlobals "named" = some (some (.ref e3)))
    (a4 : PySem.W.nsIn K mainGlobals "figure_of" = some (some (.ref e4)))
    (a5 : PySem.W.nsIn K mainGlobals "alike" = some (some (.ref e5)))
    (a6 : PySem.W.nsIn K mainGlobals "put_by" = some (some (.ref e6)))
    (a7 : PySem.W.nsIn K mainGlobals "here_by" = some (some (.ref e7)))
    (a8 : PySem.W.nsIn K mainGlobals "anew_by" = some (some (.ref e8)))
    (a9 : PySem.W.nsIn K mainGlobals "short_by" = some (some (.ref e9)))
    (a10 : PySem.W.nsIn K mainGlobals "deed_by" = some (some (.ref e10)))
    (a19 : PySem.W.nsIn K mainGlobals "read" = some (some (.ref e19)))
    (a20 : PySem.W.nsIn K mainGlobals "_law_draw" = some (some (.ref e20)))
    (a21 : PySem.W.nsIn K mainGlobals "_law_same" = some (some (.ref e21)))
    (a22 : PySem.W.nsIn K mainGlobals "_law_names" = some (some (.ref e22)))
    (a23 : PySem.W.nsIn K mainGlobals "_law_shut" = some (some (.ref e23)))
    (a24 : PySem.W.nsIn K mainGlobals "_law_row" = some (some (.ref e24)))
    (a25 : PySem.W.nsIn K mainGlobals "law" = some (some (.ref e25)))
    (in0 : PySem.W.findIn K (.ref C0) "__init__" = some (some (.ref e11)))
    (m_Reader_made : PySem.W.findIn K (.ref C0) "made" = some (some (.ref e18)))
    (m_Reader_ended : PySem.W.findIn K (.ref C0) "ended" = some (some (.ref e17)))
    (m_Reader_take : PySem.W.findIn K (.ref C0) "take" = some (some (.ref e12)))
    (m_Reader_take_box : PySem.W.findIn K (.ref C0) "take_box" = some (some (.ref e13)))
    (m_Reader_take_bell : PySem.W.findIn K (.ref C0) "take_bell" = some (some (.ref e14)))
    (m_Reader_take_row : PySem.W.findIn K (.ref C0) "take_row" = some (some (.ref e15)))
    (m_Reader_take_shut : PySem.W.findIn K (.ref C0) "take_shut" = some (some (.ref e16)))
    (l0 : K.lookup e0 = some ⟨oc0, od0, .func (PySem.W.fnOf "size_of" "size_of" (defArgs (topS 1)) (defBody (topS 1)) (defScope (topS 1)) .none kV0 dc0 pm0 an0 cd0 ct0), sl0⟩)
    (c0 : PySem.W.codeIn K cd0 "size_of" = true)
    (k0 : PySem.W.keepIn K (.ref e0) = true)
    (l1 : K.lookup e1 = some ⟨oc1, od1, .func (PySem.W.fnOf "is_name" "is_name" (defArgs (topS 9)) (defBody (topS 9)) (defScope (topS 9)) .none kV1 dc1 pm1 an1 cd1 ct1), sl1⟩)
    (c1 : PySem.W.codeIn K cd1 "is_name" = true)
    (k1 : PySem.W.keepIn K (.ref e1) = true)
    (l2 : K.lookup e2 = some ⟨oc2, od2, .func (PySem.W.fnOf "number_of" "number_of" (defArgs (topS 10)) (defBody (topS 10)) (defScope (topS 10)) .none kV2 dc2 pm2 an2 cd2 ct2), sl2⟩)
    (c2 : PySem.W.codeIn K cd2 "number_of" = true)
    (k2 : PySem.W.keepIn K (.ref e2) = true)
    (l3 : K.lookup e3 = some ⟨oc3, od3, .func (PySem.W.fnOf "named" "named" (defArgs (topS 13)) (defBody (topS 13)) (defScope (topS 13)) .none kV3 dc3 pm3 an3 cd3 ct3), sl3⟩)
    (c3 : PySem.W.codeIn K cd3 "named" = true)
    (k3 : PySem.W.keepIn K (.ref e3) = true)
    (l4 : K.lookup e4 = some ⟨oc4, od4, .func (PySem.W.fnOf "figure_of" "figure_of" (defArgs (topS 14)) (defBody (topS 14)) (defScope (topS 14)) .none kV4 dc4 pm4 an4 cd4 ct4), sl4⟩)
    (c4 : PySem.W.codeIn K cd4 "figure_of" = true)
    (k4 : PySem.W.keepIn K (.ref e4) = true)
    (l5 : K.lookup e5 = some ⟨oc5, od5, .func (PySem.W.fnOf "alike" "alike" (defArgs (topS 15)) (defBody (topS 15)) (defScope (topS 15)) .none kV5 dc5 pm5 an5 cd5 ct5), sl5⟩)
    (c5 : PySem.W.codeIn K cd5 "alike" = true)
    (k5 : PySem.W.keepIn K (.ref e5) = true)
    (l6 : K.lookup e6 = some ⟨oc6, od6, .func (PySem.W.fnOf "put_by" "put_by" (defArgs (topS 16)) (defBody (topS 16)) (defScope (topS 16)) .none kV6 dc6 pm6 an6 cd6 ct6), sl6⟩)
    (c6 : PySem.W.codeIn K cd6 "put_by" = true)
    (k6 : PySem.W.keepIn K (.ref e6) = true)
    (l7 : K.lookup e7 = some ⟨oc7, od7, .func (PySem.W.fnOf "here_by" "here_by" (defArgs (topS 17)) (defBody (topS 17)) (defScope (topS 17)) .none kV7 dc7 pm7 an7 cd7 ct7), sl7⟩)
    (c7 : PySem.W.codeIn K cd7 "here_by" = true)
    (k7 : PySem.W.keepIn K (.ref e7) = true)
    (l8 : K.lookup e8 = some ⟨oc8, od8, .func (PySem.W.fnOf "anew_by" "anew_by" (defArgs (topS 18)) (defBody (topS 18)) (defScope (topS 18)) .none kV8 dc8 pm8 an8 cd8 ct8), sl8⟩)
    (c8 : PySem.W.codeIn K cd8 "anew_by" = true)
    (k8 : PySem.W.keepIn K (.ref e8) = true)
    (l9 : K.lookup e9 = some ⟨oc9, od9, .func (PySem.W.fnOf "short_by" "short_by" (defArgs (topS 19)) (defBody (topS 19)) (defScope (topS 19)) .none kV9 dc9 pm9 an9 cd9 ct9), sl9⟩)
    (c9 : PySem.W.codeIn K cd9 "short_by" = true)
    (k9 : PySem.W.keepIn K (.ref e9) = true)
    (l10 : K.lookup e10 = some ⟨oc10, od10, .func (PySem.W.fnOf "deed_by" "deed_by" (defArgs (topS 20)) (defBody (topS 20)) (defScope (topS 20)) .none kV10 dc10 pm10 an10 cd10 ct10), sl10⟩)
    (c10 : PySem.W.codeIn K cd10 "deed_by" = true)
    (k10 : PySem.W.keepIn K (.ref e10) = true)
    (l11 : K.lookup e11 = some ⟨oc11, od11, .func (PySem.W.fnOf "__init__" "Reader.__init__" (defArgs (inClass (topS 21) 0)) (defBody (inClass (topS 21) 0)) (defScope (inClass (topS 21) 0)) .none kV11 dc11 pm11 an11 cd11 ct11), sl11⟩)
    (c11 : PySem.W.codeIn K cd11 "Reader.__init__" = true)
    (k11 : PySem.W.keepIn K (.ref e11) = true)
    (i11 : PySem.W.isFn K (.ref e11) = true)
    (l12 : K.lookup e12 = some ⟨oc12, od12, .func (PySem.W.fnOf "take" "Reader.take" (defArgs (inClass (topS 21) 1)) (defBody (inClass (topS 21) 1)) (defScope (inClass (topS 21) 1)) .none kV12 dc12 pm12 an12 cd12 ct12), sl12⟩)
    (c12 : PySem.W.codeIn K cd12 "Reader.take" = true)
    (k12 : PySem.W.keepIn K (.ref e12) = true)
    (i12 : PySem.W.isFn K (.ref e12) = true)
    (l13 : K.lookup e13 = some ⟨oc13, od13, .func (PySem.W.fnOf "take_box" "Reader.take_box" (defArgs (inClass (topS 21) 2)) (defBody (inClass (topS 21) 2)) (defScope (inClass (topS 21) 2)) .none kV13 dc13 pm13 an13 cd13 ct13), sl13⟩)
    (c13 : PySem.W.codeIn K cd13 "Reader.take_box" = true)
    (k13 : PySem.W.keepIn K (.ref e13) = true)
    (i13 : PySem.W.isFn K (.ref e13) = true)
    (l14 : K.lookup e14 = some ⟨oc14, od14, .func (PySem.W.fnOf "take_bell" "Reader.take_bell" (defArgs (inClass (topS 21) 3)) (defBody (inClass (topS 21) 3)) (defScope (inClass (topS 21) 3)) .none kV14 dc14 pm14 an14 cd14 ct14), sl14⟩)
    (c14 : PySem.W.codeIn K cd14 "Reader.take_bell" = true)
    (k14 : PySem.W.keepIn K (.ref e14) = true)
    (i14 : PySem.W.isFn K (.ref e14) = true)
    (l15 : K.lookup e15 = some ⟨oc15, od15, .func (PySem.W.fnOf "take_row" "Reader.take_row" (defArgs (inClass (topS 21) 4)) (defBody (inClass (topS 21) 4)) (defScope (inClass (topS 21) 4)) .none kV15 dc15 pm15 an15 cd15 ct15), sl15⟩)
    (c15 : PySem.W.codeIn K cd15 "Reader.take_row" = true)
    (k15 : PySem.W.keepIn K (.ref e15) = true)
    (i15 : PySem.W.isFn K (.ref e15) = true)
    (l16 : K.lookup e16 = some ⟨oc16, od16, .func (PySem.W.fnOf "take_shut" "Reader.take_shut" (defArgs (inClass (topS 21) 5)) (defBody (inClass (topS 21) 5)) (defScope (inClass (topS 21) 5)) .none kV16 dc16 pm16 an16 cd16 ct16), sl16⟩)
    (c16 : PySem.W.codeIn K cd16 "Reader.take_shut" = true)
    (k16 : PySem.W.keepIn K (.ref e16) = true)
    (i16 : PySem.W.isFn K (.ref e16) = true)
    (l17 : K.lookup e17 = some ⟨oc17, od17, .func (PySem.W.fnOf "ended" "Reader.ended" (defArgs (inClass (topS 21) 6)) (defBody (inClass (topS 21) 6)) (defScope (inClass (topS 21) 6)) .none kV17 dc17 pm17 an17 cd17 ct17), sl17⟩)
    (c17 : PySem.W.codeIn K cd17 "Reader.ended" = true)
    (k17 : PySem.W.keepIn K (.ref e17) = true)
    (i17 : PySem.W.isFn K (.ref e17) = true)
    (l18 : K.lookup e18 = some ⟨oc18, od18, .func (PySem.W.fnOf "made" "Reader.made" (defArgs (inClass (topS 21) 7)) (defBody (inClass (topS 21) 7)) (defScope (inClass (topS 21) 7)) .none kV18 dc18 pm18 an18 cd18 ct18), sl18⟩)
    (c18 : PySem.W.codeIn K cd18 "Reader.made" = true)
    (k18 : PySem.W.keepIn K (.ref e18) = true)
    (i18 : PySem.W.isFn K (.ref e18) = true)
    (l19 : K.lookup e19 = some ⟨oc19, od19, .func (PySem.W.fnOf "read" "read" (defArgs (topS 22)) (defBody (topS 22)) (defScope (topS 22)) .none kV19 dc19 pm19 an19 cd19 ct19), sl19⟩)
    (c19 : PySem.W.codeIn K cd19 "read" = true)
    (k19 : PySem.W.keepIn K (.ref e19) = true)
    (l20 : K.lookup e20 = some ⟨oc20, od20, .func (PySem.W.fnOf "_law_draw" "_law_draw" (defArgs (topS 24)) (defBody (topS 24)) (defScope (topS 24)) .none kV20 dc20 pm20 an20 cd20 ct20), sl20⟩)
    (c20 : PySem.W.codeIn K cd20 "_law_draw" = true)
    (k20 : PySem.W.keepIn K (.ref e20) = true)
    (l21 : K.lookup e21 = some ⟨oc21, od21, .func (PySem.W.fnOf "_law_same" "_law_same" (defArgs (topS 25)) (defBody (topS 25)) (defScope (topS 25)) .none kV21 dc21 pm21 an21 cd21 ct21), sl21⟩)
    (c21 : PySem.W.codeIn K cd21 "_law_same" = true)
    (k21 : PySem.W.keepIn K (.ref e21) = true)
    (l22 : K.lookup e22 = some ⟨oc22, od22, .func (PySem.W.fnOf "_law_names" "_law_names" (defArgs (topS 26)) (defBody (topS 26)) (defScope (topS 26)) .none kV22 dc22 pm22 an22 cd22 ct22), sl22⟩)
    (c22 : PySem.W.codeIn K cd22 "_law_names" = true)
    (k22 : PySem.W.keepIn K (.ref e22) = true)
    (l23 : K.lookup e23 = some ⟨oc23, od23, .func (PySem.W.fnOf "_law_shut" "_law_shut" (defArgs (topS 27)) (defBody (topS 27)) (defScope (topS 27)) .none kV23 dc23 pm23 an23 cd23 ct23), sl23⟩)
    (c23 : PySem.W.codeIn K cd23 "_law_shut" = true)
    (k23 : PySem.W.keepIn K (.ref e23) = true)
    (l24 : K.lookup e24 = some ⟨oc24, od24, .func (PySem.W.fnOf "_law_row" "_law_row" (defArgs (topS 28)) (defBody (topS 28)) (defScope (topS 28)) .none kV24 dc24 pm24 an24 cd24 ct24), sl24⟩)
    (c24 : PySem.W.codeIn K cd24 "_law_row" = true)
    (k24 : PySem.W.keepIn K (.ref e24) = true)
    (l25 : K.lookup e25 = some ⟨oc25, od25, .func (PySem.W.fnOf "law" "law" (defArgs (topS 29)) (defBody (topS 29)) (defScope (topS 29)) .none kV25 dc25 pm25 an25 cd25 ct25), sl25⟩)
    (c25 : PySem.W.codeIn K cd25 "law" = true)
    (k25 : PySem.W.keepIn K (.ref e25) = true)
    (pg0 : PySem.W.plainGet K C0 Str.empty = true)
    (hd0 : PySem.W.hasDictIn K C0 = true)
    (po0 : PySem.W.plainOver K C0 = true)
    (sa0 : PySem.W.findIn K (.ref C0) "__setattr__" = some (some (.builtin "object.__setattr__")))
    (n0_at : PySem.W.findIn K (.ref C0) "at" = some none)
    (n0_bells : PySem.W.findIn K (.ref C0) "bells" = some none)
    (n0_boxes : PySem.W.findIn K (.ref C0) "boxes" = some none)
    (n0_places : PySem.W.findIn K (.ref C0) "places" = some none)
    (n0_rows : PySem.W.findIn K (.ref C0) "rows" = some none)
    (n0_stretches : PySem.W.findIn K (.ref C0) "stretches" = some none)
    (mk0 : PySem.W.makesIn K C0 = true)
    (kc0 : PySem.W.keepIn K (.ref C0) = true)
    (gc0 : PySem.W.nsIn K mainGlobals "BOUND" = some (some (.int 1000000000 t0)))
    (gc1 : PySem.W.nsIn K mainGlobals "FIGURES" = some (some (.str "0123456789" t1)))
    (gc2 : PySem.W.nsIn K mainGlobals "RANKS" = some (some (.str "123456789" t2)))
    (gc3 : PySem.W.nsIn K mainGlobals "LETTERS" = some (some (.str "abcdefghijklmnopqrstuvwxyz" t3)))
    (z0 : PySem.W.nsIn K mainGlobals "int" = some none)
    (z1 : PySem.W.nsIn K mainGlobals "str" = some none)
    (z2 : PySem.W.nsIn K mainGlobals "list" = some none)
    (z3 : PySem.W.nsIn K mainGlobals "tuple" = some none)
    (z4 : PySem.W.nsIn K mainGlobals "len" = some none)
    (z5 : PySem.W.nsIn K mainGlobals "sum" = some none)
    (z6 : PySem.W.nsIn K mainGlobals "all" = some none)
    (z7 : PySem.W.nsIn K mainGlobals "any" = some none)
    (z8 : PySem.W.nsIn K mainGlobals "abs" = some none)
    (z9 : PySem.W.nsIn K mainGlobals "max" = some none)
    (z10 : PySem.W.nsIn K mainGlobals "min" = some none)
    (z11 : PySem.W.nsIn K mainGlobals "sorted" = some none)
    (z12 : PySem.W.nsIn K mainGlobals "bool" = some none)
    (z13 : PySem.W.nsIn K mainGlobals "isinstance" = some none)
    (z14 : PySem.W.nsIn K mainGlobals "range" = some none)
    (z15 : PySem.W.nsIn K mainGlobals "enumerate" = some none)
    (z16 : PySem.W.nsIn K mainGlobals "zip" = some none)
    (z17 : PySem.W.nsIn K mainGlobals "reversed" = some none)
    (z18 : PySem.W.nsIn K mainGlobals "set" = some none)
    (z19 : PySem.W.nsIn K mainGlobals "dict" = some none) : LamX.LawAtS PySem.Challenge.rw_bellnest_k08_stretches w K CX0 62 63 "_law_script" mg fa h := by
  refine law_endR (txts X G ac0 a0 a1 a2 a3 a4 a5 a6 a7 a8 a9 a10 a19 a20 a21 a22 a23 a24 a25 in0 m_Reader_made m_Reader_ended m_Reader_take m_Reader_take_box m_Reader_take_bell m_Reader_take_row m_Reader_take_shut l0 c0 k0 l1 c1 k1 l2 c2 k2 l3 c3 k3 l4 c4 k4 l5 c5 k5 l6 c6 k6 l7 c7 k7 l8 c8 k8 l9 c9 k9 l10 c10 k10 l11 c11 k11 i11 l12 c12 k12 i12 l13 c13 k13 i13 l14 c14 k14 i14 l15 c15 k15 i15 l16 c16 k16 i16 l17 c17 k17 i17 l18 c18 k18 i18 l19 c19 k19 l20 c20 k20 l21 c21 k21 l22 c22 k22 l23 c23 k23 l24 c24 k24 l25 c25 k25 pg0 hd0 po0 sa0 n0_at n0_bells n0_boxes n0_places n0_rows n0_stretches mk0 kc0 gc0 gc1 gc2 gc3 z0 z1 z2 z3 z4 z5 z6 z7 z8 z9 z10 z11 z12 z13 z14 z15 z16 z17 z18 z19) (g := 25) rfl rfl rfl rfl hmg 29 (by simp) (by simp) (by simp) fun ns hl => law_true ns hl
end Pr
open PySem PySem.W PyProof.Rows
set_option maxHeartbeats 0 in
theorem PySem.Challenge.cw_bellnest_k08_stretches_holds : PySem.Challenge.rw_bellnest_k08_stretches.Holds := by
  w_on; o_law; k_head; (case hw => w_witness2)
  k_fill
  refine Me.walk_ofC (l := PySem.Challenge.rw_bellnest_k08_stretches) (n := 63) (k := 62) (x := "_law_script") (CX := fun _ => L2.CX0) rfl (by decide) rfl ⟨rfl, by decide, by decide⟩ (fun w h Y => by first | exact PySem.W.kIn_of Y | exact PySem.W.km_in_of Y) ?F (fun _ _ _ _ _ h => h)
  case F =>
    intro w mg fa h KX G hmg HT
    refine' Pr.fin KX G HT hmg ?ac0 ?a0 ?a1 ?a2 ?a3 ?a4 ?a5 ?a6 ?a7 ?a8 ?a9 ?a10 ?a19 ?a20 ?a21 ?a22 ?a23 ?a24 ?a25 ?in0 ?m_Reader_made ?m_Reader_ended ?m_Reader_take ?m_Reader_take_box ?m_Reader_take_bell ?m_Reader_take_row ?m_Reader_take_shut ?l0 ?c0 ?k0 ?l1 ?c1 ?k1 ?l2 ?c2 ?k2 ?l3 ?c3 ?k3 ?l4 ?c4 ?k4 ?l5 ?c5 ?k5 ?l6 ?c6 ?k6 ?l7 ?c7 ?k7 ?l8 ?c8 ?k8 ?l9 ?c9 ?k9 ?l10 ?c10 ?k10 ?l11 ?c11 ?k11 ?i11 ?l12 ?c12 ?k12 ?i12 ?l13 ?c13 ?k13 ?i13 ?l14 ?c14 ?k14 ?i14 ?l15 ?c15 ?k15 ?i15 ?l16 ?c16 ?k16 ?i16 ?l17 ?c17 ?k17 ?i17 ?l18 ?c18 ?k18 ?i18 ?l19 ?c19 ?k19 ?l20 ?c20 ?k20 ?l21 ?c21 ?k21 ?l22 ?c22 ?k22 ?l23 ?c23 ?k23 ?l24 ?c24 ?k24 ?l25 ?c25 ?k25 ?pg0 ?hd0 ?po0 ?sa0 ?n0_at ?n0_bells ?n0_boxes ?n0_places ?n0_rows ?n0_stretches ?mk0 ?kc0 ?gc0 ?gc1 ?gc2 ?gc3 ?z0 ?z1 ?z2 ?z3 ?z4 ?z5 ?z6 ?z7 ?z8 ?z9 ?z10 ?z11 ?z12 ?z13 ?z14 ?z15 ?z16 ?z17 ?z18 ?z19
    (case ac0 => k_is)
    (case a0 => k_is)
    (case a1 => k_is)
    (case a2 => k_is)
    (case a3 => k_is)
    (case a4 => k_is)
    (case a5 => k_is)
    (case a6 => k_is)
    (case a7 => k_is)
    (case a8 => k_is)
    (case a9 => k_is)
    (case a10 => k_is)
    (case a19 => k_is)
    (case a20 => k_is)
    (case a21 => k_is)
    (case a22 => k_is)
    (case a23 => k_is)
    (case a24 => k_is)
    (case a25 => k_is)
    (case in0 => k_is)
    (case m_Reader_made => k_is)
    (case m_Reader_ended => k_is)
    (case m_Reader_take => k_is)
    (case m_Reader_take_box => k_is)
    (case m_Reader_take_bell => k_is)
    (case m_Reader_take_row => k_is)
    (case m_Reader_take_shut => k_is)
    (case l0 => k_is)
    (case c0 => k_is)
    (case k0 => k_is)
    (case l1 => k_is)
    (case c1 => k_is)
    (case k1 => k_is)
    (case l2 => k_is)
    (case c2 => k_is)
    (case k2 => k_is)
    (case l3 => k_is)
    (case c3 => k_is)
    (case k3 => k_is)
    (case l4 => k_is)
    (case c4 => k_is)
    (case k4 => k_is)
    (case l5 => k_is)
    (case c5 => k_is)
    (case k5 => k_is)
    (case l6 => k_is)
    (case c6 => k_is)
    (case k6 => k_is)
    (case l7 => k_is)
    (case c7 => k_is)
    (case k7 => k_is)
    (case l8 => k_is)
    (case c8 => k_is)
    (case k8 => k_is)
    (case l9 => k_is)
    (case c9 => k_is)
    (case k9 => k_is)
    (case l10 => k_is)
    (case c10 => k_is)
    (case k10 => k_is)
    (case l11 => k_is)
    (case c11 => k_is)
    (case k11 => k_is)
    (case i11 => k_is)
    (case l12 => k_is)
    (case c12 => k_is)
    (case k12 => k_is)
    (case i12 => k_is)
    (case l13 => k_is)
    (case c13 => k_is)
    (case k13 => k_is)
    (case i13 => k_is)
    (case l14 => k_is)
    (case c14 => k_is)
    (case k14 => k_is)
    (case i14 => k_is)
    (case l15 => k_is)
    (case c15 => k_is)
    (case k15 => k_is)
    (case i15 => k_is)
    (case l16 => k_is)
    (case c16 => k_is)
    (case k16 => k_is)
    (case i16 => k_is)
    (case l17 => k_is)
    (case c17 => k_is)
    (case k17 => k_is)
    (case i17 => k_is)
    (case l18 => k_is)
    (case c18 => k_is)
    (case k18 => k_is)
    (case i18 => k_is)
    (case l19 => k_is)
    (case c19 => k_is)
    (case k19 => k_is)
    (case l20 => k_is)
    (case c20 => k_is)
    (case k20 => k_is)
    (case l21 => k_is)
    (case c21 => k_is)
    (case k21 => k_is)
    (case l22 => k_is)
    (case c22 => k_is)
    (case k22 => k_is)
    (case l23 => k_is)
    (case c23 => k_is)
    (case k23 => k_is)
    (case l24 => k_is)
    (case c24 => k_is)
    (case k24 => k_is)
    (case l25 => k_is)
    (case c25 => k_is)
    (case k25 => k_is)
    (case pg0 => k_is)
    (case hd0 => k_is)
    (case po0 => k_is)
    (case sa0 => k_is)
    (case n0_at => k_is)
    (case n0_bells => k_is)
    (case n0_boxes => k_is)
    (case n0_places => k_is)
    (case n0_rows => k_is)
    (case n0_stretches => k_is)
    (case mk0 => k_is)
    (case kc0 => k_is)
    (case gc0 => k_is)
    (case gc1 => k_is)
    (case gc2 => k_is)
    (case gc3 => k_is)
    (case z0 => k_is)
    (case z1 => k_is)
    (case z2 => k_is)
    (case z3 => k_is)
    (case z4 => k_is)
    (case z5 => k_is)
    (case z6 => k_is)
    (case z7 => k_is)
    (case z8 => k_is)
    (case z9 => k_is)
    (case z10 => k_is)
    (case z11 => k_is)
    (case z12 => k_is)
    (case z13 => k_is)
    (case z14 => k_is)
    (case z15 => k_is)
    (case z16 => k_is)
    (case z17 => k_is)
    (case z18 => k_is)
    (case z19 => k_is)
