import PyProof.Rows.All
import Wide.All
import OpenK.AllK
import Wide.FinOn
import HandS.Base
import HandS.Call
import HandS.List
import HandS.Comp
import HandS.Ends
import HandS.Dict
import HandS.Iter
import HandS.Exc
import HandS.ExcOwn
import HandS.WordsExc
import HandS.IsInst
import HandS.TupAny
import HandS.TupMul
import HandS.Deep
import HandS.Text
import HandS.Flow
import HandS.Conv
import HandS.Style
import HandS.Steps
import HandS.TupLen
import HandS.HeadHook1
import HandS.Lambda
import HandS.HeadHook4
import HandS.Small
import HandS.More
import HandS.WordsDict
import HandS.Property
import HandS.Defaults
import HandS.SetFor
import HandS.SetBool
import HandS.SetKeys
import KE.KDictDisplayH
import KE.GoesNewDict
import HandS.DictComp
import KE.KDictCopyH
import HandS.ClsMeth
import HandS.OwnEq
import KE.GoesMore
import KE.GoesZip
import HandS.TupSets
import HandS.ExcIs
import KE.KStateDown
import HandS.Words
import HandS.Head0
import HandS.Head1
import HandS.Head2
import HandS.HeadEnd
import HandS.HeadHook2
import HandS.HeadHook3
import PySem.Challenge.RW_layoutswap_k65_fewest_refused
import HandS.EndTab
set_option Elab.async false
set_option linter.all false
set_option maxRecDepth 100000
set_option maxHeartbeats 1000000
/-! FL1: data, what stands for it, worlds -/
namespace FL
open PySem PySem.Spec PyProof.Rows L2

/-- an exception object that is kept -/
def ExcP (a : Addr) (cls : Value) (d : Option Addr) : Heap → Prop := fun h => ∃ o, h.get? a = some o ∧ Zc cls d o ∧ ∃ vs, o.data = .fields vs
/-- what is made as a thing of nobody, for ever, without being new -/
def NDat (o : HO) : Prop := (∃ vs, o = .tup vs) ∨ ∃ c q, o = LamX.CodeO c q
theorem NDat.tup (vs : List V) : NDat (.tup vs) := .inl ⟨vs, rfl⟩
/-- data that never changes -/
inductive D where
  | non | bl (b : Bool) | int (i : Int) | str (s : Str) | ty (n : String) | cls (c : Str)
  | tup (xs : List D) | xtp (xs : List D) | lst (xs : List D) | xls (xs : List D)
  | dk (kvs : List (Key × D)) | dt (kvs : List (List Key × D)) | ldt (kvs : List (List Key × D)) | exc (c : Str)
  | obj (c : Str) (fs : List (Str × D)) | fn (a : Addr) (u : HO) (k : Addr) (v : HO)
instance : Inhabited D := ⟨.non⟩
/-- a thing with its owner: data, or what may be changed -/
inductive W where
  | va (d : D) | ls (xs : List D) | dk (kvs : List (Key × D)) | dt (kvs : List (List Key × D)) | ob (c : Str) (fs : List (Str × W))
instance : Inhabited W := ⟨.va .non⟩

section
variable (K : PySem.W.Frag) (Z : Hp)
mutual
inductive Rep : V → D → Prop
  | non : Rep .non .non
  | bl (b : Bool) : Rep (.bl b) (.bl b)
  | int (i : Int) : Rep (.int i) (.int i)
  | str (s : Str) : Rep (.str s) (.str s)
  | ty (n : String) : Rep (.ty n) (.ty n)
  | cls (c : Str) : Rep (.ref (He.ga K c)) (.cls c)
  | tup {a : Addr} {vs : List V} {ds : List D} : Z a = some (.tup vs) → Reps vs ds → Rep (.ref a) (.tup ds)
  | xtp {a : Addr} {vs : List V} {ds : List D} : SqT K Z a vs → Reps vs ds → Rep (.ref a) (.xtp ds)
  | lst {a : Addr} {vs : List V} {ds : List D} : Z a = some (.lst vs) → Reps vs ds → Rep (.ref a) (.lst ds)
  | xls {a : Addr} {vs : List V} {ds : List D} : SqL K Z a vs → Reps vs ds → Rep (.ref a) (.xls ds)
  | dk {a : Addr} {kvs : List (Key × V)} {kds : List (Key × D)} : Z a = some (.dK kvs) → kvs.map (·.1) = kds.map (·.1) → Reps (kvs.map (·.2)) (kds.map (·.2)) → Rep (.ref a) (.dk kds)
  | dt {a : Addr} {kvs : List (List Key × V)} {kds : List (List Key × D)} : Z a = some (.dT kvs) → kvs.map (·.1) = kds.map (·.1) → Reps (kvs.map (·.2)) (kds.map (·.2)) → Rep (.ref a) (.dt kds)
  | ldt {a : Addr} {o : Obj} {kvs : List (List Key × V)} {kds : List (List Key × D)} : Z a = some (.frz o (.dT kvs)) → kvs.map (·.1) = kds.map (·.1) → Reps (kvs.map (·.2)) (kds.map (·.2)) → Rep (.ref a) (.ldt kds)
  | fn {a k : Addr} {u v : HO} : Z a = some u → Z k = some v → Rep (.ref a) (.fn a u k v)
  | exc {a : Addr} {c : Str} : Z a = some (.ext (ExcP a (.ref (He.ga K c)) none)) → Rep (.ref a) (.exc c)
  | obj {a dx : Addr} {c : Str} {fs : List (Str × V)} {ds : List (Str × D)} : Z a = some (.ins (He.ga K c) dx fs) → fs.map (·.1) = ds.map (·.1) → Reps (fs.map (·.2)) (ds.map (·.2)) → Rep (.ref a) (.obj c ds)
inductive Reps : List V → List D → Prop
  | nil : Reps [] []
  | cons {v : V} {vs : List V} {d : D} {ds : List D} : Rep v d → Reps vs ds → Reps (v :: vs) (d :: ds)
end
end

def Zle (Z Z' : Hp) : Prop := ∀ a o, Z a = some o → Z' a = some o
theorem Zle.refl (Z : Hp) : Zle Z Z := fun _ _ h => h
theorem Zle.trans {Z Z1 Z2 : Hp} (a : Zle Z Z1) (b : Zle Z1 Z2) : Zle Z Z2 := fun x o h => b x o (a x o h)
theorem Zle.rd {Z Z' : Hp} (e : Zle Z Z') {a : Addr} {u : HO} (h : Rd Z a u) : Rd Z' a u := by
  rcases h with h | ⟨o, h⟩
  · exact .inl (e _ _ h)
  · exact .inr ⟨o, e _ _ h⟩
theorem Zle.sqT {K : PySem.W.Frag} {Z Z' : Hp} (e : Zle Z Z') {a : Addr} {vs : List V} (h : SqT K Z a vs) : SqT K Z' a vs := by
  rcases h with h | h
  · exact .inl (e.rd h)
  · exact .inr h
theorem Zle.sqL {K : PySem.W.Frag} {Z Z' : Hp} (e : Zle Z Z') {a : Addr} {vs : List V} (h : SqL K Z a vs) : SqL K Z' a vs := by
  rcases h with h | h
  · exact .inl (e.rd h)
  · exact .inr h
section
variable {K : PySem.W.Frag} {Z Z' : Hp}
mutual
theorem Rep.mono (e : Zle Z Z') : ∀ {v : V} {d : D}, Rep K Z v d → Rep K Z' v d
  | _, _, .non => .non
  | _, _, .bl b => .bl b
  | _, _, .int b => .int b
  | _, _, .str b => .str b
  | _, _, .ty b => .ty b
  | _, _, .cls c => .cls c
  | _, _, .tup h r => .tup (e _ _ h) (Reps.mono e r)
  | _, _, .xtp h r => .xtp (e.sqT h) (Reps.mono e r)
  | _, _, .lst h r => .lst (e _ _ h) (Reps.mono e r)
  | _, _, .xls h r => .xls (e.sqL h) (Reps.mono e r)
  | _, _, .dk h k r => .dk (e _ _ h) k (Reps.mono e r)
  | _, _, .dt h k r => .dt (e _ _ h) k (Reps.mono e r)
  | _, _, .ldt h k r => .ldt (e _ _ h) k (Reps.mono e r)
  | _, _, .exc h => .exc (e _ _ h)
  | _, _, .fn h i => .fn (e _ _ h) (e _ _ i)
  | _, _, .obj h k r => .obj (e _ _ h) k (Reps.mono e r)
theorem Reps.mono (e : Zle Z Z') : ∀ {vs : List V} {ds : List D}, Reps K Z vs ds → Reps K Z' vs ds
  | _, _, .nil => .nil
  | _, _, .cons h r => .cons (Rep.mono e h) (Reps.mono e r)
end
theorem Reps.length : ∀ {vs : List V} {ds : List D}, Reps K Z vs ds → vs.length = ds.length
  | _, _, .nil => rfl
  | _, _, .cons _ r => by rw [List.length_cons, List.length_cons, Reps.length r]
theorem Reps.append : ∀ {vs ws : List V} {ds es : List D}, Reps K Z vs ds → Reps K Z ws es → Reps K Z (vs ++ ws) (ds ++ es)
  | _, _, _, _, .nil, s => s
  | _, _, _, _, .cons h r, s => .cons h (Reps.append r s)
theorem Reps.get : ∀ {vs : List V} {ds : List D} {i : Nat} {d : D}, Reps K Z vs ds → ds[i]? = some d → ∃ v, vs[i]? = some v ∧ Rep K Z v d
  | _, _, _, _, .nil, e => by simp at e
  | _, _, 0, _, .cons h _, e => by simp at e; subst e; exact ⟨_, rfl, h⟩
  | _, _, i + 1, d, .cons _ r, e => by
    obtain ⟨v, h1, h2⟩ := Reps.get (i := i) (d := d) r (by simpa using e)
    exact ⟨v, by simpa using h1, h2⟩
theorem Reps.getV : ∀ {vs : List V} {ds : List D} {i : Nat} {v : V}, Reps K Z vs ds → vs[i]? = some v → ∃ d, ds[i]? = some d ∧ Rep K Z v d
  | _, _, _, _, .nil, e => by simp at e
  | _, _, 0, _, .cons h _, e => by simp at e; subst e; exact ⟨_, rfl, h⟩
  | _, _, i + 1, d, .cons _ r, e => by
    obtain ⟨v, h1, h2⟩ := Reps.getV (i := i) (v := d) r (by simpa using e)
    exact ⟨v, by simpa using h1, h2⟩
theorem Reps.take : ∀ {vs : List V} {ds : List D} (n : Nat), Reps K Z vs ds → Reps K Z (vs.take n) (ds.take n)
  | _, _, 0, _ => .nil
  | _, _, _ + 1, .nil => .nil
  | _, _, n + 1, .cons r t => .cons r (Reps.take n t)
theorem Reps.drop : ∀ {vs : List V} {ds : List D} (n : Nat), Reps K Z vs ds → Reps K Z (vs.drop n) (ds.drop n)
  | _, _, 0, r => r
  | _, _, _ + 1, .nil => .nil
  | _, _, n + 1, .cons _ t => Reps.drop n t
theorem Reps.set {v : V} {d : D} (h : Rep K Z v d) : ∀ {vs : List V} {ds : List D} (i : Nat), Reps K Z vs ds → Reps K Z (vs.set i v) (ds.set i d)
  | _, _, _, .nil => .nil
  | _, _, 0, .cons _ t => .cons h t
  | _, _, i + 1, .cons r t => .cons r (Reps.set h i t)
theorem Reps.one {v : V} {d : D} (h : Rep K Z v d) : Reps K Z [v] [d] := .cons h .nil
theorem Reps.rev : ∀ {vs : List V} {ds : List D}, Reps K Z vs ds → Reps K Z vs.reverse ds.reverse
  | _, _, .nil => .nil
  | _, _, .cons h r => by
    rw [List.reverse_cons, List.reverse_cons]
    exact (Reps.rev r).append (.one h)
theorem Reps.rep {vs : List V} {ds : List D} (h : Reps K Z vs ds) : ∀ n : Nat, Reps K Z (List.replicate n vs).flatten (List.replicate n ds).flatten
  | 0 => .nil
  | n + 1 => by
    rw [List.replicate_succ, List.replicate_succ, List.flatten_cons, List.flatten_cons]
    exact h.append (Reps.rep h n)
theorem Reps.eraseIdx : ∀ {vs : List V} {ds : List D} (i : Nat), Reps K Z vs ds → Reps K Z (vs.eraseIdx i) (ds.eraseIdx i)
  | _, _, _, .nil => .nil
  | _, _, 0, .cons _ t => t
  | _, _, i + 1, .cons r t => .cons r (Reps.eraseIdx i t)
theorem Reps.ints : ∀ ns : List Int, Reps K Z (ns.map V.int) (ns.map D.int)
  | [] => .nil
  | n :: ns => .cons (.int n) (Reps.ints ns)
theorem Reps.strs : ∀ ns : List Str, Reps K Z (ns.map V.str) (ns.map D.str)
  | [] => .nil
  | n :: ns => .cons (.str n) (Reps.strs ns)
theorem Reps.ints_inv : ∀ {vs : List V} {ns : List Int}, Reps K Z vs (ns.map D.int) → vs = ns.map V.int
  | _, [], h => by cases h; rfl
  | _, n :: ns, h => by
    cases h with
    | cons a b =>
      cases a
      rw [Reps.ints_inv b]
      rfl
theorem Reps.bls_inv : ∀ {vs : List V} {ns : List Bool}, Reps K Z vs (ns.map D.bl) → vs = ns.map V.bl
  | _, [], h => by cases h; rfl
  | _, n :: ns, h => by
    cases h with
    | cons a b =>
      cases a
      rw [Reps.bls_inv b]
      rfl
theorem Reps.strs_inv : ∀ {vs : List V} {ns : List Str}, Reps K Z vs (ns.map D.str) → vs = ns.map V.str
  | _, [], h => by cases h; rfl
  | _, n :: ns, h => by
    cases h with
    | cons a b =>
      cases a
      rw [Reps.strs_inv b]
      rfl
end

section
variable (K : PySem.W.Frag) (Z H : Hp)
mutual
inductive RepW : V → W → List Addr → Prop
  | va {v : V} {d : D} : Rep K Z v d → RepW v (.va d) []
  | ls {a : Addr} {vs : List V} {ds : List D} : H a = some (.lst vs) → Reps K Z vs ds → RepW (.ref a) (.ls ds) [a]
  | dk {a : Addr} {kvs : List (Key × V)} {kds : List (Key × D)} : H a = some (.dK kvs) → kvs.map (·.1) = kds.map (·.1) → Reps K Z (kvs.map (·.2)) (kds.map (·.2)) → RepW (.ref a) (.dk kds) [a]
  | dt {a : Addr} {kvs : List (List Key × V)} {kds : List (List Key × D)} : H a = some (.dT kvs) → kvs.map (·.1) = kds.map (·.1) → Reps K Z (kvs.map (·.2)) (kds.map (·.2)) → RepW (.ref a) (.dt kds) [a]
  | ob {a dx : Addr} {c : Str} {fs : List (Str × V)} {ws : List (Str × W)} {fp : List Addr} : H a = some (.ins (He.ga K c) dx fs) → fs.map (·.1) = ws.map (·.1) → RepWs (fs.map (·.2)) (ws.map (·.2)) fp → RepW (.ref a) (.ob c ws) (a :: fp)
inductive RepWs : List V → List W → List Addr → Prop
  | nil : RepWs [] [] []
  | cons {v : V} {vs : List V} {w : W} {ws : List W} {f fp : List Addr} : RepW v w f → RepWs vs ws fp → RepWs (v :: vs) (w :: ws) (f ++ fp)
end
end
section
variable {K : PySem.W.Frag} {Z Z' H H' : Hp}
mutual
/-- other objects of the heap may change, data may come -/
theorem RepW.keep (e : Zle Z Z') : ∀ {v : V} {w : W} {fp : List Addr}, RepW K Z H v w fp → (∀ a ∈ fp, H' a = H a) → RepW K Z' H' v w fp
  | _, _, _, .va h, _ => .va (h.mono e)
  | _, _, _, .ls h r, k => .ls ((k _ (List.mem_singleton_self _)).trans h) (r.mono e)
  | _, _, _, .dk h q r, k => .dk ((k _ (List.mem_singleton_self _)).trans h) q (r.mono e)
  | _, _, _, .dt h q r, k => .dt ((k _ (List.mem_singleton_self _)).trans h) q (r.mono e)
  | _, _, _, .ob h q r, k => .ob ((k _ List.mem_cons_self).trans h) q (RepWs.keep e r fun a ha => k a (List.mem_cons_of_mem _ ha))
theorem RepWs.keep (e : Zle Z Z') : ∀ {vs : List V} {ws : List W} {fp : List Addr}, RepWs K Z H vs ws fp → (∀ a ∈ fp, H' a = H a) → RepWs K Z' H' vs ws fp
  | _, _, _, .nil, _ => .nil
  | _, _, _, .cons h r, k => .cons (RepW.keep e h fun a ha => k a (List.mem_append_left _ ha)) (RepWs.keep e r fun a ha => k a (List.mem_append_right _ ha))
end
mutual
theorem RepW.there : ∀ {v : V} {w : W} {fp : List Addr}, RepW K Z H v w fp → ∀ a ∈ fp, H a ≠ none
  | _, _, _, .va _, _, ha => by cases ha
  | _, _, _, .ls h _, a, ha => by rw [List.mem_singleton.mp ha, h]; exact fun z => nomatch z
  | _, _, _, .dk h _ _, a, ha => by rw [List.mem_singleton.mp ha, h]; exact fun z => nomatch z
  | _, _, _, .dt h _ _, a, ha => by rw [List.mem_singleton.mp ha, h]; exact fun z => nomatch z
  | _, _, _, .ob h _ r, a, ha => by
    rcases List.mem_cons.mp ha with e | ha
    · rw [e, h]; exact fun z => nomatch z
    · exact RepWs.there r a ha
theorem RepWs.there : ∀ {vs : List V} {ws : List W} {fp : List Addr}, RepWs K Z H vs ws fp → ∀ a ∈ fp, H a ≠ none
  | _, _, _, .nil, _, ha => by cases ha
  | _, _, _, .cons h r, a, ha => by
    rcases List.mem_append.mp ha with ha | ha
    · exact RepW.there h a ha
    · exact RepWs.there r a ha
end

mutual
/-- as data for ever -/
def frz : W → D
  | .va d => d
  | .ls xs => .lst xs
  | .dk kvs => .dk kvs
  | .dt kvs => .dt kvs
  | .ob c fs => .obj c (frzF fs)
def frzF : List (Str × W) → List (Str × D)
  | [] => []
  | (f, w) :: r => (f, frz w) :: frzF r
end
theorem frzF_keys : ∀ fs : List (Str × W), (frzF fs).map (·.1) = fs.map (·.1)
  | [] => by simp [frzF]
  | (f, w) :: r => by simp [frzF, frzF_keys r]
theorem frzF_eq : ∀ fs : List (Str × W), frzF fs = fs.map fun p => (p.1, frz p.2)
  | [] => by simp [frzF]
  | (f, w) :: r => by simp [frzF, frzF_eq r]
/-- Z with the objects at fp as H has them -/
def zAdd (Z H : Hp) (fp : List Addr) : Hp := fun a => if a ∈ fp then H a else Z a
theorem zAdd_in {fp : List Addr} {a : Addr} (h : a ∈ fp) : zAdd Z H fp a = H a := by unfold zAdd; rw [if_pos h]
theorem zAdd_out {fp : List Addr} {a : Addr} (h : a ∉ fp) : zAdd Z H fp a = Z a := by unfold zAdd; rw [if_neg h]
mutual
theorem RepW.frz {G : Hp} (e : Zle Z G) : ∀ {v : V} {w : W} {fp : List Addr}, RepW K Z H v w fp → (∀ a ∈ fp, G a = H a) → Rep K G v (frz w)
  | _, _, _, .va h, _ => by simp only [FL.frz]; exact h.mono e
  | _, _, _, .ls h r, k => by simp only [FL.frz]; exact .lst ((k _ (List.mem_singleton_self _)).trans h) (r.mono e)
  | _, _, _, .dk h q r, k => by simp only [FL.frz]; exact .dk ((k _ (List.mem_singleton_self _)).trans h) q (r.mono e)
  | _, _, _, .dt h q r, k => by simp only [FL.frz]; exact .dt ((k _ (List.mem_singleton_self _)).trans h) q (r.mono e)
  | _, _, _, .ob (fs := fs) (ws := ws) h q r, k => by
    simp only [FL.frz]
    refine .obj ((k _ List.mem_cons_self).trans h) (q.trans (frzF_keys _).symm) ?_
    have := RepWs.frz e r fun a ha => k a (List.mem_cons_of_mem _ ha)
    rw [frzF_eq, List.map_map]
    rw [List.map_map] at this
    exact this
theorem RepWs.frz {G : Hp} (e : Zle Z G) : ∀ {vs : List V} {ws : List W} {fp : List Addr}, RepWs K Z H vs ws fp → (∀ a ∈ fp, G a = H a) → Reps K G vs (ws.map FL.frz)
  | _, _, _, .nil, _ => .nil
  | _, _, _, .cons h r, k => .cons (RepW.frz e h fun a ha => k a (List.mem_append_left _ ha)) (RepWs.frz e r fun a ha => k a (List.mem_append_right _ ha))
end
end
end FL
set_option Elab.async false
set_option linter.all false
set_option maxRecDepth 100000
set_option maxHeartbeats 1000000
/-! FL2: slots, worlds -/
namespace FL
open PySem PySem.Spec PyProof.Rows L2

/-- a slot: nothing known; a thing (io: the caller's, at a fixed place) -/
inductive Sl where
  | no | so (io : Bool) (w : W) | tab (d q : Str)
instance : Inhabited Sl := ⟨.no⟩
abbrev Rho := List Sl
/-- at a def's entry: frozen data, heap, what the caller handed in to be changed, where -/
structure Fx where
  Z0 : Hp
  H0 : Hp
  F0 : List Addr
  ps : List (Option V)
  /-- the code tables that are known (only a def that makes lambdas, or calls one that does, has some) -/
  T : List (Addr × Str) := []
/-- what is never owned -/
def NOwn (u : HO) : Prop := (∃ vs, u = .tup vs) ∨ (∃ ps, u = .tbl ps) ∨ ∃ c q, u = LamX.CodeO c q
theorem NDat.own {o : HO} (h : NDat o) : NOwn o := h.imp id fun h => .inr h
theorem NOwn.tup (vs : List V) : NOwn (.tup vs) := .inl ⟨vs, rfl⟩
theorem NOwn.tbl (ps : Array Value) : NOwn (.tbl ps) := .inr (.inl ⟨ps, rfl⟩)
theorem NOwn.code (c : Addr) (q : Str) : NOwn (LamX.CodeO c q) := .inr (.inr ⟨c, q, rfl⟩)
/-- the tables stay where something else is written -/
theorem tabs_upd {T : List (Addr × Str)} {H : Hp} {a : Addr} {o : HO} (t : LamX.Tabs T H) (h : ∀ u, NOwn u → H a ≠ some u) : LamX.Tabs T (upd H a o) := fun p hp => by
  obtain ⟨ps, h1, h2, h3⟩ := t p hp
  refine ⟨ps, ?_, h2, fun pos cv hc => ?_⟩
  · rw [upd_ne]
    · exact h1
    · rintro e; rw [e] at h1; exact h _ (.tbl ps) h1
  · obtain ⟨c, e1, e2⟩ := h3 pos cv hc
    refine ⟨c, e1, ?_⟩
    rw [upd_ne]
    · exact e2
    · rintro e; rw [e] at e2; exact h _ (.code _ _) e2
/-- the table at P may change in this def -/
structure Tb (fx : Fx) (P : Addr) (q : Str) : Prop where
  mem : (P, q) ∈ fx.T
  uni : ∀ p ∈ fx.T, p.1 = P → p.2 = q
  f0 : P ∈ fx.F0
  z0 : fx.Z0 P = none
  h0 : fx.H0 P ≠ none
inductive Slots (K : PySem.W.Frag) (fx : Fx) (Z H : Hp) : List (Option V) → Rho → L2.St → List Addr → Prop
  | nil : Slots K fx Z H [] [] [] []
  | no {p : Option V} {ps : List (Option V)} {x : Option V} {ρ : Rho} {σ : L2.St} {fp : List Addr} : Slots K fx Z H ps ρ σ fp → Slots K fx Z H (p :: ps) (.no :: ρ) (x :: σ) fp
  | tab {d q : Str} {p : Option V} {ps : List (Option V)} {x : Option V} {ρ : Rho} {σ : L2.St} {fp : List Addr} : Tb fx (He.cT K (d, none)).2 q → Slots K fx Z H ps ρ σ fp → Slots K fx Z H (p :: ps) (.tab d q :: ρ) (x :: σ) fp
  | so {io : Bool} {p : Option V} {ps : List (Option V)} {v : V} {w : W} {ρ : Rho} {σ : L2.St} {f fp : List Addr} : RepW K Z H v w f → (∀ a ∈ f, fx.H0 a = none ∨ (io = true ∧ a ∈ fx.F0)) → (io = true → p = some v) →
      Slots K fx Z H ps ρ σ fp → Slots K fx Z H (p :: ps) (.so io w :: ρ) (some v :: σ) (f ++ fp)
/-- the state of a def's body: fp what the slots own, ex what else is owned (a value just made) -/
structure WdF (K : PySem.W.Frag) (fx : Fx) (Z H : Hp) (ρ : Rho) (σ : L2.St) (fp ex : List Addr) : Prop where
  sl : Slots K fx Z H fx.ps ρ σ fp
  nd : (fp ++ ex).Nodup
  zn : ∀ a ∈ fp ++ ex, Z a = none
  th : ∀ a ∈ fp ++ ex, H a ≠ none
  nt : ∀ a ∈ fp ++ ex, ∀ u, NOwn u → H a ≠ some u
  xn : ∀ a ∈ ex, fx.H0 a = none
  zh : Zle Z H
  kp : ∀ a o, fx.H0 a = some o → a ∉ fx.F0 → H a = some o
  zf : ∀ a o, Z a = some o → fx.Z0 a = some o ∨ fx.H0 a = none ∨ NDat o
  dm : ∀ a, fx.H0 a ≠ none → H a ≠ none
  tb : LamX.Tabs fx.T H
def Wd (K : PySem.W.Frag) (fx : Fx) (Z H : Hp) (ρ : Rho) (σ : L2.St) (ex : List Addr) : Prop := ∃ fp, WdF K fx Z H ρ σ fp ex

section
variable {K : PySem.W.Frag} {fx : Fx} {Z Z' H H' : Hp} {ps : List (Option V)} {ρ : Rho} {σ : L2.St} {fp ex : List Addr}
theorem Slots.keep (e : Zle Z Z') : ∀ {ps : List (Option V)} {ρ : Rho} {σ : L2.St} {fp : List Addr}, Slots K fx Z H ps ρ σ fp → (∀ a ∈ fp, H' a = H a) → Slots K fx Z' H' ps ρ σ fp
  | _, _, _, _, .nil, _ => .nil
  | _, _, _, _, .no r, k => .no (Slots.keep e r k)
  | _, _, _, _, .tab t r, k => .tab t (Slots.keep e r k)
  | _, _, _, _, .so h o p r, k => .so (h.keep e fun a ha => k a (List.mem_append_left _ ha)) o p (Slots.keep e r fun a ha => k a (List.mem_append_right _ ha))
theorem Slots.lenρ : ∀ {ps : List (Option V)} {ρ : Rho} {σ : L2.St} {fp : List Addr}, Slots K fx Z H ps ρ σ fp → ρ.length = σ.length ∧ ps.length = ρ.length
  | _, _, _, _, .nil => ⟨rfl, rfl⟩
  | _, _, _, _, .no r => ⟨congrArg (· + 1) (Slots.lenρ r).1, congrArg (· + 1) (Slots.lenρ r).2⟩
  | _, _, _, _, .tab _ r => ⟨congrArg (· + 1) (Slots.lenρ r).1, congrArg (· + 1) (Slots.lenρ r).2⟩
  | _, _, _, _, .so _ _ _ r => ⟨congrArg (· + 1) (Slots.lenρ r).1, congrArg (· + 1) (Slots.lenρ r).2⟩
/-- a slot read -/
theorem Slots.get : ∀ {ps : List (Option V)} {ρ : Rho} {σ : L2.St} {fp : List Addr} {i : Nat} {io : Bool} {w : W}, Slots K fx Z H ps ρ σ fp → ρ[i]? = some (.so io w) →
    ∃ v f, σ[i]? = some (some v) ∧ RepW K Z H v w f ∧ (∀ a ∈ f, a ∈ fp) ∧ (∀ a ∈ f, fx.H0 a = none ∨ (io = true ∧ a ∈ fx.F0)) ∧ (io = true → ps[i]? = some (some v))
  | _, _, _, _, i, _, _, .nil, e => by simp at e
  | _, _, _, _, 0, _, _, .no r, e => by simp at e
  | _, _, _, _, i + 1, io, w, .no r, e => by
    obtain ⟨v, f, h1, h2, h3, h4, h5⟩ := Slots.get (i := i) (io := io) (w := w) r (by simpa using e)
    exact ⟨v, f, by simpa using h1, h2, h3, h4, fun q => by simpa using h5 q⟩
  | _, _, _, _, 0, _, _, .tab _ r, e => by simp at e
  | _, _, _, _, i + 1, io, w, .tab _ r, e => by
    obtain ⟨v, f, h1, h2, h3, h4, h5⟩ := Slots.get (i := i) (io := io) (w := w) r (by simpa using e)
    exact ⟨v, f, by simpa using h1, h2, h3, h4, fun q => by simpa using h5 q⟩
  | _, _, _, _, 0, _, _, .so h o p r, e => by
    simp at e
    obtain ⟨e1, e2⟩ := e
    subst e1 e2
    exact ⟨_, _, rfl, h, fun a ha => List.mem_append_left _ ha, o, fun q => by rw [p q]; rfl⟩
  | _, _, _, _, i + 1, io, w, .so h o p r, e => by
    obtain ⟨v, f, h1, h2, h3, h4, h5⟩ := Slots.get (i := i) (io := io) (w := w) r (by simpa using e)
    exact ⟨v, f, by simpa using h1, h2, fun a ha => List.mem_append_right _ (h3 a ha), h4, fun q => by simpa using h5 q⟩
/-- a slot forgotten; the same places -/
theorem Slots.forget : ∀ {ps : List (Option V)} {ρ : Rho} {σ : L2.St} {fp : List Addr} (i : Nat), Slots K fx Z H ps ρ σ fp → ∀ x : Option V, ∃ fp', Slots K fx Z H ps (ρ.set i .no) (σ.set i x) fp' ∧ List.Sublist fp' fp
  | _, _, _, _, i, .nil, _ => ⟨[], by simpa using Slots.nil, .refl _⟩
  | _, _, _, _, 0, .no r, x => ⟨_, .no r, .refl _⟩
  | _, _, _, _, i + 1, .no r, x => by
    obtain ⟨fp', h1, h2⟩ := Slots.forget i r x
    exact ⟨fp', .no h1, h2⟩
  | _, _, _, _, 0, .tab _ r, x => ⟨_, .no r, .refl _⟩
  | _, _, _, _, i + 1, .tab t r, x => by
    obtain ⟨fp', h1, h2⟩ := Slots.forget i r x
    exact ⟨fp', .tab t h1, h2⟩
  | _, _, _, _, 0, .so h o p r, x => ⟨_, .no r, List.sublist_append_right _ _⟩
  | _, _, _, _, i + 1, .so h o p r, x => by
    obtain ⟨fp', h1, h2⟩ := Slots.forget i r x
    exact ⟨_, .so h o p h1, List.Sublist.append (.refl _) h2⟩
/-- a slot set -/
theorem Slots.put : ∀ {ps : List (Option V)} {ρ : Rho} {σ : L2.St} {fp : List Addr} (i : Nat), Slots K fx Z H ps ρ σ fp → ∀ {io : Bool} {v : V} {w : W} {f : List Addr}, i < ρ.length → RepW K Z H v w f → (∀ a ∈ f, fx.H0 a = none ∨ (io = true ∧ a ∈ fx.F0)) → (io = true → ps[i]? = some (some v)) →
    ∃ fp' l r g, Slots K fx Z H ps (ρ.set i (.so io w)) (σ.set i (some v)) fp' ∧ fp = l ++ g ++ r ∧ fp' = l ++ f ++ r ∧ (∀ w' io', ρ[i]? = some (.so io' w') → ∃ v', σ[i]? = some (some v') ∧ RepW K Z H v' w' g)
  | _, _, _, _, i, .nil, _, _, _, _, hi, _, _, _ => by simp at hi
  | _, _, _, _, 0, .no r, io, v, w, f, _, h, o, p => ⟨_, [], _, [], .so h o (fun q => by simpa using p q) r, rfl, rfl, fun w' io' e => by simp at e⟩
  | _, _, _, _, i + 1, .no r, io, v, w, f, hi, h, o, p => by
    obtain ⟨fp', l, r', g, h1, h2, h3, h4⟩ := Slots.put i r (by simpa using hi) h o (fun q => by simpa using p q)
    exact ⟨fp', l, r', g, .no h1, h2, h3, fun w' io' e => by simpa using h4 w' io' (by simpa using e)⟩
  | _, _, _, _, 0, .tab t r, io, v, w, f, _, h, o, p => ⟨_, [], _, [], .so h o (fun q => by simpa using p q) r, rfl, rfl, fun w' io' e => by simp at e⟩
  | _, _, _, _, i + 1, .tab t r, io, v, w, f, hi, h, o, p => by
    obtain ⟨fp', l, r', g, h1, h2, h3, h4⟩ := Slots.put i r (by simpa using hi) h o (fun q => by simpa using p q)
    exact ⟨fp', l, r', g, .tab t h1, h2, h3, fun w' io' e => by simpa using h4 w' io' (by simpa using e)⟩
  | _, _, _, _, 0, .so (f := f0) h0 o0 p0 r, io, v, w, f, _, h, o, p => ⟨_, [], _, f0, .so h o (fun q => by simpa using p q) r, rfl, rfl, fun w' io' e => by
    simp at e
    obtain ⟨e1, e2⟩ := e
    subst e1 e2
    exact ⟨_, rfl, h0⟩⟩
  | _, _, _, _, i + 1, .so (f := f0) h0 o0 p0 r, io, v, w, f, hi, h, o, p => by
    obtain ⟨fp', l, r', g, h1, h2, h3, h4⟩ := Slots.put i r (by simpa using hi) h o (fun q => by simpa using p q)
    exact ⟨_, f0 ++ l, r', g, .so h0 o0 p0 h1, by rw [h2]; simp, by rw [h3]; simp, fun w' io' e => by simpa using h4 w' io' (by simpa using e)⟩

/-- the heap grows, data may come of what is new -/
structure Gr (Z H Z' H' : Hp) : Prop where
  z : Zle Z Z'
  h : ∀ a o, H a = some o → H' a = some o
  zh : Zle Z' H'
  nw : ∀ a o, Z' a = some o → Z a = some o ∨ H a = none ∨ NDat o
theorem Gr.refl (h : Zle Z H) : Gr Z H Z H := ⟨.refl _, fun _ _ e => e, h, fun _ _ e => .inl e⟩
theorem Gr.trans {Z1 H1 : Hp} (a : Gr Z H Z' H') (b : Gr Z' H' Z1 H1) : Gr Z H Z1 H1 := ⟨a.z.trans b.z, fun x o e => b.h x o (a.h x o e), b.zh, fun x o e => by
  rcases b.nw x o e with e | e | e
  · exact a.nw x o e
  · refine .inr (.inl ?_)
    cases q : H x with
    | none => rfl
    | some u => rw [a.h x u q] at e; cases e
  · exact .inr (.inr e)⟩
/-- a new thing, nobody's -/
theorem Gr.junk {p : Addr} {o : HO} (h : Zle Z H) (hp : H p = none) : Gr Z H Z (upd H p o) := ⟨.refl _, fun a u e => by rw [upd_ne (ne_of_none e hp)]; exact e, fun a u e => by rw [upd_ne (ne_of_none (h a u e) hp)]; exact h a u e, fun _ _ e => .inl e⟩
/-- a new datum -/
theorem Gr.data {p : Addr} {o : HO} (h : Zle Z H) (hp : H p = none) : Gr Z H (upd Z p o) (upd H p o) := by
  have hz : Z p = none := by
    cases q : Z p with
    | none => rfl
    | some u => rw [h p u q] at hp; cases hp
  refine ⟨fun a u e => by rw [upd_ne (ne_of_none e hz)]; exact e, fun a u e => by rw [upd_ne (ne_of_none e hp)]; exact e, fun a u e => ?_, fun a u e => ?_⟩
  · by_cases ha : a = p
    · subst ha; rw [upd_same] at e ⊢; exact e
    · rw [upd_ne ha] at e ⊢; exact h a u e
  · by_cases ha : a = p
    · subst ha; exact .inr (.inl hp)
    · rw [upd_ne ha] at e; exact .inl e
theorem WdF.gr (w : WdF K fx Z H ρ σ fp ex) (g : Gr Z H Z' H') : WdF K fx Z' H' ρ σ fp ex where
  sl := w.sl.keep g.z fun a ha => by
    cases q : H a with
    | none => exact absurd q (w.th a (List.mem_append_left _ ha))
    | some o => exact g.h a o q
  nd := w.nd
  zn := fun a ha => by
    cases q : Z' a with
    | none => rfl
    | some o =>
      rcases g.nw a o q with e | e | nd
      · rw [w.zn a ha] at e; cases e
      · exact absurd e (w.th a ha)
      · have := g.zh a _ q
        cases y : H a with
        | none => exact absurd y (w.th a ha)
        | some o2 =>
          have y2 := g.h a o2 y
          rw [this] at y2
          cases y2
          exact absurd y (w.nt a ha _ nd.own)
  th := fun a ha z => by
    cases q : H a with
    | none => exact w.th a ha q
    | some o => rw [g.h a o q] at z; cases z
  nt := fun a ha u hu z => by
    cases q : H a with
    | none => exact w.th a ha q
    | some o => rw [g.h a o q] at z; cases z; exact w.nt a ha _ hu q
  tb := w.tb.ext g.h
  xn := w.xn
  zh := g.zh
  kp := fun a o e n => g.h a o (w.kp a o e n)
  zf := fun a o e => by
    rcases g.nw a o e with e | e | e
    · exact w.zf a o e
    · refine .inr (.inl ?_)
      cases q : fx.H0 a with
      | none => rfl
      | some u => exact absurd e (w.dm a (by rw [q]; exact fun z => nomatch z))
    · exact .inr (.inr e)
  dm := fun a h z => by
    cases q : H a with
    | none => exact w.dm a h q
    | some o => rw [g.h a o q] at z; cases z
theorem Wd.gr (w : Wd K fx Z H ρ σ ex) (g : Gr Z H Z' H') : Wd K fx Z' H' ρ σ ex := let ⟨fp, h⟩ := w; ⟨fp, h.gr g⟩
/-- a new thing, owned -/
theorem Wd.made {p : Addr} {o : HO} (w : Wd K fx Z H ρ σ ex) (hp : H p = none) (ho : ∀ u, NOwn u → o ≠ u := by (rintro _ (⟨_, rfl⟩ | ⟨_, rfl⟩ | ⟨_, _, rfl⟩) z <;> cases z)) : Wd K fx Z (upd H p o) ρ σ (p :: ex) := by
  obtain ⟨fp, h⟩ := w
  have hz : Z p = none := by
    cases q : Z p with
    | none => rfl
    | some u => rw [h.zh p u q] at hp; cases hp
  have h0 : fx.H0 p = none := by
    cases q : fx.H0 p with
    | none => rfl
    | some u => exact absurd hp (h.dm p (by rw [q]; exact fun z => nomatch z))
  have hn : p ∉ fp ++ ex := fun z => h.th p z hp
  have g := h.gr (Gr.junk (o := o) h.zh hp)
  refine ⟨fp, ⟨g.sl, ?_, ?_, ?_, ?_, ?_, g.zh, g.kp, g.zf, g.dm, g.tb⟩⟩
  · have := h.nd
    simp only [List.nodup_append, List.nodup_cons, List.mem_cons, List.mem_append, not_or] at this hn ⊢
    refine ⟨this.1, ⟨hn.2, this.2.1⟩, fun a ha b hb => ?_⟩
    rcases hb with rfl | hb
    · rintro rfl; exact hn.1 ha
    · exact this.2.2 a ha b hb
  · intro a ha
    simp only [List.mem_append, List.mem_cons] at ha
    rcases ha with ha | rfl | ha
    · exact h.zn a (List.mem_append_left _ ha)
    · exact hz
    · exact h.zn a (List.mem_append_right _ ha)
  · intro a ha
    simp only [List.mem_append, List.mem_cons] at ha
    rcases ha with ha | rfl | ha
    · exact g.th a (List.mem_append_left _ ha)
    · rw [upd_same]; exact fun z => nomatch z
    · exact g.th a (List.mem_append_right _ ha)
  · intro a ha vs hv
    simp only [List.mem_append, List.mem_cons] at ha
    rcases ha with ha | rfl | ha
    · exact g.nt a (List.mem_append_left _ ha) vs hv
    · rw [upd_same]; exact fun z => ho vs hv (Option.some.inj z)
    · exact g.nt a (List.mem_append_right _ ha) vs hv
  · intro a ha
    rcases List.mem_cons.mp ha with rfl | ha
    · exact h0
    · exact h.xn a ha
/-- what is owned beside the slots becomes data -/
theorem Wd.freeze {v : V} {w : W} {f : List Addr} (x : Wd K fx Z H ρ σ (f ++ ex)) (r : RepW K Z H v w f) : ∃ Z', Zle Z Z' ∧ Wd K fx Z' H ρ σ ex ∧ Rep K Z' v (frz w) := by
  obtain ⟨fp, h⟩ := x
  have zl : Zle Z (zAdd Z H f) := fun a o e => by
    by_cases ha : a ∈ f
    · rw [h.zn a (List.mem_append_right _ (List.mem_append_left _ ha))] at e; cases e
    · rw [zAdd_out ha]; exact e
  have nd := h.nd
  have out : ∀ a ∈ fp ++ ex, a ∉ f := fun a ha hx => by
    simp only [List.nodup_append, List.mem_append] at nd ha
    grind
  have sub : ∀ a ∈ fp ++ ex, a ∈ fp ++ (f ++ ex) := fun a ha => by
    simp only [List.mem_append] at ha ⊢
    grind
  refine ⟨zAdd Z H f, zl, ⟨fp, ⟨h.sl.keep zl fun _ _ => rfl, ?_, ?_, ?_, fun a ha vs => h.nt a (sub a ha) vs, fun a ha => h.xn a (List.mem_append_right _ ha), ?_, h.kp, ?_, h.dm, h.tb⟩⟩, r.frz zl fun a ha => zAdd_in ha⟩
  · simp only [List.nodup_append, List.mem_append] at nd ⊢
    grind
  · intro a ha
    rw [zAdd_out (out a ha)]
    exact h.zn a (sub a ha)
  · intro a ha
    exact h.th a (sub a ha)
  · intro a o e
    by_cases ha : a ∈ f
    · rw [zAdd_in ha] at e; exact e
    · rw [zAdd_out ha] at e; exact h.zh a o e
  · intro a o e
    by_cases ha : a ∈ f
    · exact .inr (.inl (h.xn a (List.mem_append_left _ ha)))
    · rw [zAdd_out ha] at e; exact h.zf a o e
/-- what is owned beside the slots goes into a slot -/
theorem Wd.put {i : Nat} {v : V} {w : W} {f : List Addr} (x : Wd K fx Z H ρ σ (f ++ ex)) (r : RepW K Z H v w f) (hi : i < ρ.length) : Wd K fx Z H (ρ.set i (.so false w)) (σ.set i (some v)) ex := by
  obtain ⟨fp, h⟩ := x
  obtain ⟨fp', l, rr, g, h1, h2, h3, _⟩ := h.sl.put i hi (io := false) r (fun a ha => .inl (h.xn a (List.mem_append_left _ ha))) (fun z => nomatch z)
  have nd := h.nd
  have sub : ∀ a ∈ fp' ++ ex, a ∈ fp ++ (f ++ ex) := fun a ha => by
    rw [h3] at ha
    rw [h2]
    simp only [List.mem_append] at ha ⊢
    grind
  refine ⟨fp', ⟨h1, ?_, fun a ha => h.zn a (sub a ha), fun a ha => h.th a (sub a ha), fun a ha vs => h.nt a (sub a ha) vs, fun a ha => h.xn a (List.mem_append_right _ ha), h.zh, h.kp, h.zf, h.dm, h.tb⟩⟩
  rw [h3]
  rw [h2] at nd
  simp only [List.nodup_append, List.mem_append] at nd ⊢
  grind
theorem Wd.zh (x : Wd K fx Z H ρ σ ex) : Zle Z H := let ⟨_, h⟩ := x; h.zh
theorem Wd.forget {i : Nat} (x : Wd K fx Z H ρ σ ex) (y : Option V) : Wd K fx Z H (ρ.set i .no) (σ.set i y) ex := by
  obtain ⟨fp, h⟩ := x
  obtain ⟨fp', h1, h2⟩ := h.sl.forget i y
  have h3 : List.Sublist (fp' ++ ex) (fp ++ ex) := h2.append (.refl _)
  exact ⟨fp', ⟨h1, h.nd.sublist h3, fun a ha => h.zn a (h3.subset ha), fun a ha => h.th a (h3.subset ha), fun a ha vs => h.nt a (h3.subset ha) vs, h.xn, h.zh, h.kp, h.zf, h.dm, h.tb⟩⟩
theorem set_self {α : Type} : ∀ (l : List α) (i : Nat) (x : α), l[i]? = some x → l.set i x = l
  | [], _, _, h => by simp at h
  | a :: l, 0, x, h => by simp at h; subst h; rfl
  | a :: l, i + 1, x, h => by
    rw [List.set_cons_succ, set_self l i x (by simpa using h)]
theorem Wd.lens (x : Wd K fx Z H ρ σ ex) : ρ.length = σ.length := let ⟨_, h⟩ := x; h.sl.lenρ.1
/-- the slot's value stays, it is not known any more -/
theorem Wd.lose {i : Nat} (x : Wd K fx Z H ρ σ ex) : Wd K fx Z H (ρ.set i .no) σ ex := by
  by_cases hi : i < σ.length
  · have := x.forget (i := i) σ[i]
    rwa [set_self σ i σ[i] (List.getElem?_eq_getElem hi)] at this
  · rw [List.set_eq_of_length_le (by rw [x.lens]; omega)]
    exact x
/-- a thing dropped -/
theorem Wd.drop {f : List Addr} (x : Wd K fx Z H ρ σ (f ++ ex)) : Wd K fx Z H ρ σ ex := by
  obtain ⟨fp, h⟩ := x
  have h3 : List.Sublist (fp ++ ex) (fp ++ (f ++ ex)) := (List.Sublist.refl _).append (List.sublist_append_right _ _)
  exact ⟨fp, ⟨h.sl, h.nd.sublist h3, fun a ha => h.zn a (h3.subset ha), fun a ha => h.th a (h3.subset ha), fun a ha vs => h.nt a (h3.subset ha) vs, fun a ha => h.xn a (List.mem_append_right _ ha), h.zh, h.kp, h.zf, h.dm, h.tb⟩⟩
theorem Wd.get {i : Nat} {io : Bool} {d : D} (x : Wd K fx Z H ρ σ ex) (e : ρ[i]? = some (.so io (.va d))) : ∃ v, σ[i]? = some (some v) ∧ Rep K Z v d := by
  obtain ⟨fp, h⟩ := x
  obtain ⟨v, f, h1, h2, _⟩ := h.sl.get e
  cases h2 with
  | va h2 => exact ⟨v, h1, h2⟩
end
end FL
set_option Elab.async false
set_option linter.all false
set_option maxRecDepth 100000
set_option maxHeartbeats 1000000
/-! FL3: expressions as functions of data: the judgements, what holds of any operation -/
namespace FL
open PySem PySem.Spec PyProof.Rows L2

/-- an exception: its class, its own fields (none: the class has no __init__ of its own) -/
structure Ex where
  c : Str
  fs : Option (List (Str × D))
inductive R (α : Type) where
  | ok (a : α) (ρ : Rho) | ex (e : Ex) (ρ : Rho)
abbrev F (α : Type) := Rho → Option (R α)
def F.bind {α β : Type} (f : F α) (g : α → F β) : F β := fun ρ => match f ρ with
  | some (.ok a ρ') => g a ρ'
  | some (.ex e ρ') => some (.ex e ρ')
  | none => none
def F.ret {α : Type} (a : α) : F α := fun ρ => some (.ok a ρ)
def F.of {α : Type} (o : Option α) : F α := fun ρ => o.map (.ok · ρ)

def ExR (K : PySem.W.Frag) (Z H : Hp) (e : Ex) (c : Value) (d : Option Addr) : Prop := c = .ref (He.ga K e.c) ∧ match e.fs with
  | none => d = none
  | some fs => ∃ dd kvs, d = some dd ∧ H dd = some (.xd kvs) ∧ kvs.map (·.1) = fs.map (·.1) ∧ Reps K Z (kvs.map (·.2)) (fs.map (·.2))

/-- what is fixed while a def's body (or a comprehension's block in it) runs -/
structure Gm where
  P : Program
  w : World
  K : PySem.W.Frag
  mg : Str → Option Value
  base : Heap
  N : List Str
  sc : Scope
  k : Nat
  E : XK
  top : Bool
  fnn : Str → Bool
structure Is (g : Gm) (X : Cx) : Prop where
  prog : X.prog = g.P
  w : X.w = g.w
  K : X.K = g.K
  mg : X.mg = g.mg
  base : X.base = g.base
  N : X.N = g.N
  nd : g.N.Nodup
  sc : X.env.scope = g.sc
  calm : X.calm = true
  room : Room g.k X.A
  tk : Takes X fun c d _ H => g.E c d H
  fn : ∀ x, g.fnn x = true → X.fn x = true
  po : g.top = true → PassesOwn (model X.prog X.w) X.A X.env X.xe
  st : g.top = true → X.stack = X.env :: X.outer ∧ X.env.frame = some X.env.locals ∧ X.ex = []
theorem Is.hu {g : Gm} {X : Cx} (i : Is g X) : X.A.units + 1 < cLine := hu_of i.room
theorem Is.hu64 {g : Gm} {X : Cx} (i : Is g X) : X.A.units + 64 < cLine := i.room.units
theorem Is.gl {g : Gm} {X : Cx} (i : Is g X) {x : Str} (h : g.sc.names.lookup x = some .globalImplicit) : Gl X x := by
  show X.env.scope.names.lookup x = _
  rw [i.sc]; exact h
theorem Is.hl {g : Gm} {x : Str} (h : g.fnn x = true) : ∀ X, Is g X → X.fn x = true ∨ X.env.scope.names.lookup x = some .local := fun X is => .inl (is.fn x h)
theorem Is.hlL {g : Gm} {x : Str} (h : g.sc.names.lookup x = some .local) : ∀ X, Is g X → X.fn x = true ∨ X.env.scope.names.lookup x = some .local := fun X is => .inr (by rw [is.sc]; exact h)
theorem Is.vis {g : Gm} {X : Cx} (i : Is g X) {x : Str} (h : Vis g.sc x) : Vis X.env.scope x := by rw [i.sc]; exact h
theorem Is.pass {g : Gm} {X : Cx} (i : Is g X) : Passes (L2.CX g.P g.w) X g.E := by
  have := passes_call i.tk (E := g.E) fun _ _ _ _ h => h
  intro pins σ H s e s' I c
  rw [← i.prog, ← i.w] at c
  exact this pins σ H s e s' I c

/-- the world goes on: data grows, the slots are ρ', what is owned beside stays as it is -/
structure Mv (g : Gm) (fx : Fx) (Z H : Hp) (ρ' : Rho) (σ : L2.St) (ex : List Addr) (Z' H' : Hp) : Prop where
  z : Zle Z Z'
  wd : Wd g.K fx Z' H' ρ' σ ex
  fr : ∀ a ∈ ex, H' a = H a
/-- what is wanted where an exception comes -/
def XC {α : Type} (g : Gm) (fx : Fx) (Z H : Hp) (σ : L2.St) (ex : List Addr) (r : R α) : Prop := ∀ e ρ', r = .ex e ρ' → ∀ c d Z' H', Mv g fx Z H ρ' σ ex Z' H' → ExR g.K Z' H' e c d → g.E c d H'
def OkE (g : Gm) (fx : Fx) (Z H : Hp) (σ : L2.St) (ex : List Addr) (r : R D) (Q : VK) : Prop := ∀ d ρ', r = .ok d ρ' → ∀ v Z' H', Mv g fx Z H ρ' σ ex Z' H' → Rep g.K Z' v d → Q v H'
def OkW (g : Gm) (fx : Fx) (Z H : Hp) (σ : L2.St) (ex : List Addr) (r : R W) (Q : VK) : Prop := ∀ w ρ', r = .ok w ρ' → ∀ v Z' H' fp, Zle Z Z' → Wd g.K fx Z' H' ρ' σ (fp ++ ex) → (∀ a ∈ ex, H' a = H a) → RepW g.K Z' H' v w fp → Q v H'
def OkT (g : Gm) (fx : Fx) (Z H : Hp) (σ : L2.St) (ex : List Addr) (r : R Bool) (Q : Bool → Hp → Prop) : Prop := ∀ b ρ', r = .ok b ρ' → ∀ Z' H', Mv g fx Z H ρ' σ ex Z' H' → Q b H'
def OkA (g : Gm) (fx : Fx) (Z H : Hp) (σ : L2.St) (ex : List Addr) (r : R (List D)) (Q : List V → Hp → Prop) : Prop := ∀ ds ρ', r = .ok ds ρ' → ∀ vs Z' H', Mv g fx Z H ρ' σ ex Z' H' → Reps g.K Z' vs ds → Q vs H'
def OkO (g : Gm) (fx : Fx) (Z H : Hp) (σ : L2.St) (ex : List Addr) (r : R (Option Int)) (Q : Option Int → Hp → Prop) : Prop := ∀ o ρ', r = .ok o ρ' → ∀ Z' H', Mv g fx Z H ρ' σ ex Z' H' → Q o H'
abbrev SemE (g : Gm) (te : TE) (f : F D) : Prop := ∀ fx Z H ρ σ ex, Wd g.K fx Z H ρ σ ex → ∀ r, f ρ = some r → XC g fx Z H σ ex r → ∀ Q, OkE g fx Z H σ ex r Q → te σ H Q
abbrev SemW (g : Gm) (te : TE) (f : F W) : Prop := ∀ fx Z H ρ σ ex, Wd g.K fx Z H ρ σ ex → ∀ r, f ρ = some r → XC g fx Z H σ ex r → ∀ Q, OkW g fx Z H σ ex r Q → te σ H Q
abbrev SemT (g : Gm) (t : TT) (f : F Bool) : Prop := ∀ fx Z H ρ σ ex, Wd g.K fx Z H ρ σ ex → ∀ r, f ρ = some r → XC g fx Z H σ ex r → ∀ Q, OkT g fx Z H σ ex r Q → t σ H Q
abbrev SemA (g : Gm) (t : TA) (f : F (List D)) : Prop := ∀ fx Z H ρ σ ex, Wd g.K fx Z H ρ σ ex → ∀ r, f ρ = some r → XC g fx Z H σ ex r → ∀ Q, OkA g fx Z H σ ex r Q → t σ H Q
abbrev SemO (g : Gm) (t : TO) (f : F (Option Int)) : Prop := ∀ fx Z H ρ σ ex, Wd g.K fx Z H ρ σ ex → ∀ r, f ρ = some r → XC g fx Z H σ ex r → ∀ Q, OkO g fx Z H σ ex r Q → t σ H Q
/-- an expression's value as data: f is what it computes -/
def SE (g : Gm) (e : Expr) (f : F D) : Prop := ∃ te : TE, (∀ X, Is g X → PE X e te) ∧ SemE g te f
/-- .. as a thing of its own -/
def SW (g : Gm) (e : Expr) (f : F W) : Prop := ∃ te : TE, (∀ X, Is g X → PE X e te) ∧ SemW g te f
/-- a test -/
def ST (g : Gm) (e : Expr) (f : F Bool) : Prop := ∃ t : TT, (∀ X, Is g X → PT X e t) ∧ SemT g t f
def STw (g : Gm) (e : Expr) (f : F Bool) : Prop := ∃ t : TT, (∀ X, Is g X → PW X e t) ∧ SemT g t f
/-- arguments, as data -/
def SA (g : Gm) (es : List Expr) (f : F (List D)) : Prop := ∃ t : TA, (∀ X, Is g X → PA X es t) ∧ SemA g t f
/-- a part of a slice -/
def SO (g : Gm) (e : Option Expr) (f : F (Option Int)) : Prop := ∃ t : TO, (∀ X, Is g X → PO X e t) ∧ SemO g t f

section
variable {g : Gm} {fx : Fx} {Z Z' H H' : Hp} {ρ ρ1 : Rho} {σ : L2.St} {ex : List Addr} {α β : Type}
theorem Mv.refl (w : Wd g.K fx Z H ρ σ ex) : Mv g fx Z H ρ σ ex Z H := ⟨.refl _, w, fun _ _ => rfl⟩
theorem Mv.trans {Z2 H2 : Hp} {ρ2 : Rho} (a : Mv g fx Z H ρ1 σ ex Z' H') (b : Mv g fx Z' H' ρ2 σ ex Z2 H2) : Mv g fx Z H ρ2 σ ex Z2 H2 := ⟨a.z.trans b.z, b.wd, fun x hx => (b.fr x hx).trans (a.fr x hx)⟩
theorem Mv.gr {Z2 H2 : Hp} (a : Mv g fx Z H ρ1 σ ex Z' H') (b : Gr Z' H' Z2 H2) : Mv g fx Z H ρ1 σ ex Z2 H2 := by
  refine ⟨a.z.trans b.z, a.wd.gr b, fun x hx => ?_⟩
  obtain ⟨fp, h⟩ := a.wd
  have n := h.th x (List.mem_append_right _ hx)
  rw [← a.fr x hx]
  cases q : H' x with
  | none => exact absurd q n
  | some o => exact b.h x o q
theorem Mv.zh (a : Mv g fx Z H ρ1 σ ex Z' H') : Zle Z' H' := a.wd.zh
theorem XC.mono {r : R α} (x : XC g fx Z H σ ex r) (m : Mv g fx Z H ρ1 σ ex Z' H') : XC g fx Z' H' σ ex r := fun e ρ' h c d Z2 H2 m2 => x e ρ' h c d Z2 H2 (m.trans m2)
/-- an exception that comes through -/
theorem XC.thru {e : Ex} {ρ' : Rho} (x : XC g fx Z H σ ex (.ex e ρ' : R α)) : XC g fx Z H σ ex (.ex e ρ' : R β) := fun e2 ρ2 h c d Z2 H2 m2 => by
  cases h
  exact x e ρ' rfl c d Z2 H2 m2
theorem bind_some {f : F α} {h : α → F β} {r : R β} (e : f.bind h ρ = some r) : (∃ a ρ', f ρ = some (.ok a ρ') ∧ h a ρ' = some r) ∨ ∃ x ρ', f ρ = some (.ex x ρ') ∧ r = .ex x ρ' := by
  unfold F.bind at e
  cases q : f ρ with
  | none => rw [q] at e; cases e
  | some r1 =>
    rw [q] at e
    cases r1 with
    | ok a ρ' => exact .inl ⟨a, ρ', rfl, e⟩
    | ex x ρ' => exact .inr ⟨x, ρ', rfl, (Option.some.inj e).symm⟩
theorem of_some {o : Option α} {r : R α} (e : F.of o ρ = some r) : ∃ a, o = some a ∧ r = .ok a ρ := by
  unfold F.of at e
  cases q : o with
  | none => rw [q] at e; cases e
  | some a => rw [q] at e; exact ⟨a, rfl, (Option.some.inj e).symm⟩
/-- the first part runs, then the rest -/
theorem se_run {f : F D} {h : D → F β} {te : TE} {r : R β} {Q : VK} (sem : SemE g te f) (w : Wd g.K fx Z H ρ σ ex) (e : f.bind h ρ = some r) (x : XC g fx Z H σ ex r)
    (k : ∀ d ρ1 v Z1 H1, h d ρ1 = some r → Mv g fx Z H ρ1 σ ex Z1 H1 → Rep g.K Z1 v d → XC g fx Z1 H1 σ ex r → Q v H1) : te σ H Q := by
  rcases bind_some e with ⟨a, ρ', e1, e2⟩ | ⟨xx, ρ', e1, e2⟩
  · refine sem fx Z H ρ σ ex w _ e1 (fun _ _ z => nomatch z) Q fun d ρ1 z v Z1 H1 m rp => ?_
    cases z
    exact k _ _ v Z1 H1 e2 m rp (x.mono m)
  · subst e2
    exact sem fx Z H ρ σ ex w _ e1 x.thru Q fun d ρ1 z => nomatch z
theorem sw_run {f : F W} {h : W → F β} {te : TE} {r : R β} {Q : VK} (sem : SemW g te f) (w : Wd g.K fx Z H ρ σ ex) (e : f.bind h ρ = some r) (x : XC g fx Z H σ ex r)
    (k : ∀ d ρ1 v Z1 H1 fp, h d ρ1 = some r → Zle Z Z1 → Wd g.K fx Z1 H1 ρ1 σ (fp ++ ex) → (∀ a ∈ ex, H1 a = H a) → RepW g.K Z1 H1 v d fp → XC g fx Z1 H1 σ ex r → Q v H1) : te σ H Q := by
  rcases bind_some e with ⟨a, ρ', e1, e2⟩ | ⟨xx, ρ', e1, e2⟩
  · refine sem fx Z H ρ σ ex w _ e1 (fun _ _ z => nomatch z) Q fun d ρ1 z v Z1 H1 fp zl w1 fr rp => ?_
    cases z
    exact k _ _ v Z1 H1 fp e2 zl w1 fr rp (x.mono ⟨zl, w1.drop, fr⟩)
  · subst e2
    exact sem fx Z H ρ σ ex w _ e1 x.thru Q fun d ρ1 z => nomatch z
theorem st_run {f : F Bool} {h : Bool → F β} {t : TT} {r : R β} {Q : Bool → Hp → Prop} (sem : SemT g t f) (w : Wd g.K fx Z H ρ σ ex) (e : f.bind h ρ = some r) (x : XC g fx Z H σ ex r)
    (k : ∀ b ρ1 Z1 H1, h b ρ1 = some r → Mv g fx Z H ρ1 σ ex Z1 H1 → XC g fx Z1 H1 σ ex r → Q b H1) : t σ H Q := by
  rcases bind_some e with ⟨a, ρ', e1, e2⟩ | ⟨xx, ρ', e1, e2⟩
  · refine sem fx Z H ρ σ ex w _ e1 (fun _ _ z => nomatch z) Q fun d ρ1 z Z1 H1 m => ?_
    cases z
    exact k _ _ Z1 H1 e2 m (x.mono m)
  · subst e2
    exact sem fx Z H ρ σ ex w _ e1 x.thru Q fun d ρ1 z => nomatch z
theorem sa_run {f : F (List D)} {h : List D → F β} {t : TA} {r : R β} {Q : List V → Hp → Prop} (sem : SemA g t f) (w : Wd g.K fx Z H ρ σ ex) (e : f.bind h ρ = some r) (x : XC g fx Z H σ ex r)
    (k : ∀ ds ρ1 vs Z1 H1, h ds ρ1 = some r → Mv g fx Z H ρ1 σ ex Z1 H1 → Reps g.K Z1 vs ds → XC g fx Z1 H1 σ ex r → Q vs H1) : t σ H Q := by
  rcases bind_some e with ⟨a, ρ', e1, e2⟩ | ⟨xx, ρ', e1, e2⟩
  · refine sem fx Z H ρ σ ex w _ e1 (fun _ _ z => nomatch z) Q fun d ρ1 z v Z1 H1 m rp => ?_
    cases z
    exact k _ _ v Z1 H1 e2 m rp (x.mono m)
  · subst e2
    exact sem fx Z H ρ σ ex w _ e1 x.thru Q fun d ρ1 z => nomatch z
theorem so_run {f : F (Option Int)} {h : Option Int → F β} {t : TO} {r : R β} {Q : Option Int → Hp → Prop} (sem : SemO g t f) (w : Wd g.K fx Z H ρ σ ex) (e : f.bind h ρ = some r) (x : XC g fx Z H σ ex r)
    (k : ∀ b ρ1 Z1 H1, h b ρ1 = some r → Mv g fx Z H ρ1 σ ex Z1 H1 → XC g fx Z1 H1 σ ex r → Q b H1) : t σ H Q := by
  rcases bind_some e with ⟨a, ρ', e1, e2⟩ | ⟨xx, ρ', e1, e2⟩
  · refine sem fx Z H ρ σ ex w _ e1 (fun _ _ z => nomatch z) Q fun d ρ1 z Z1 H1 m => ?_
    cases z
    exact k _ _ Z1 H1 e2 m (x.mono m)
  · subst e2
    exact sem fx Z H ρ σ ex w _ e1 x.thru Q fun d ρ1 z => nomatch z

/-! ### what an operation on values must do -/
/-- what follows: the value of d, the heap grown -/
def Fin (K : PySem.W.Frag) (Z H : Hp) (d : D) (Q : VK) : Prop := ∀ v Z' H', Gr Z H Z' H' → Rep K Z' v d → Q v H'
/-- what follows: a new list -/
def FinL (K : PySem.W.Frag) (Z H : Hp) (xs : List D) (Q : VK) : Prop := ∀ p vs, H p = none → Reps K Z vs xs → Q (.ref p) (upd H p (.lst vs))
def OpD (K : PySem.W.Frag) (r : R2) (o : D → D → Option D) : Prop := ∀ Z H x y dx dy d, Zle Z H → Rep K Z x dx → Rep K Z y dy → o dx dy = some d → ∀ Q, Fin K Z H d Q → r x y H Q
def UnD (K : PySem.W.Frag) (r : V → Hp → VK → Prop) (o : D → Option D) : Prop := ∀ Z H x dx d, Zle Z H → Rep K Z x dx → o dx = some d → ∀ Q, Fin K Z H d Q → r x H Q
def CaD (K : PySem.W.Frag) (r : List V → Hp → VK → Prop) (o : List D → Option D) : Prop := ∀ Z H xs ds d, Zle Z H → Reps K Z xs ds → o ds = some d → ∀ Q, Fin K Z H d Q → r xs H Q
def OpW (K : PySem.W.Frag) (r : R2) (o : D → D → Option (List D)) : Prop := ∀ Z H x y dx dy d, Zle Z H → Rep K Z x dx → Rep K Z y dy → o dx dy = some d → ∀ Q, FinL K Z H d Q → r x y H Q
def CaW (K : PySem.W.Frag) (r : List V → Hp → VK → Prop) (o : List D → Option (List D)) : Prop := ∀ Z H xs ds d, Zle Z H → Reps K Z xs ds → o ds = some d → ∀ Q, FinL K Z H d Q → r xs H Q
theorem Fin.now {K : PySem.W.Frag} {d : D} {Q : VK} {v : V} (f : Fin K Z H d Q) (z : Zle Z H) (h : Rep K Z v d) : Q v H := f v Z H (.refl z) h
theorem OpD.or {K : PySem.W.Frag} {r r' : R2} {o o' : D → D → Option D} (a : OpD K r o) (b : OpD K r' o') : OpD K (fun x y H Q => r x y H Q ∨ r' x y H Q) (fun x y => (o x y).or (o' x y)) := by
  intro Z H x y dx dy d z rx ry e Q f
  cases q : o dx dy with
  | some d1 =>
    have e' : d1 = d := by simpa [q] using e
    subst e'
    exact .inl (a Z H x y dx dy _ z rx ry q Q f)
  | none =>
    exact .inr (b Z H x y dx dy d z rx ry (by simpa [q] using e) Q f)

/-! ### rules -/
variable {e a b c : Expr} {fa fb fc : F D} {pos : Pos}
def fVar (i : Nat) : F D := fun ρ => match ρ[i]? with
  | some (.so _ (.va d)) => some (.ok d ρ)
  | _ => none
theorem se_var (i : Nat) {x : Str} (hN : g.N[i]? = some x) (hv : Vis g.sc x) (hd : (x == ("__debug__" : Str)) = false := by decide) (hcd : (x == ("__classdict__" : Str)) = false := by decide) : SE g (.Name x pos) (fVar i) := by
  refine ⟨tVar i, fun X is => pe_var (by rw [is.N]; exact hN) (is.vis hv) hd hcd, fun fx Z H ρ σ ex w r e x Q k => ?_⟩
  unfold fVar at e
  split at e
  · rename_i io d q
    cases e
    obtain ⟨v, h1, h2⟩ := w.get q
    exact ⟨v, h1, k d ρ rfl v Z H (.refl w) h2⟩
  · cases e
def fC (d : D) : F D := fun ρ => some (.ok d ρ)
theorem se_const {v : V} {d : D} (h : ∀ X, Is g X → PE X e (tC v)) (hr : ∀ Z, Rep g.K Z v d) : SE g e (fC d) := by
  refine ⟨tC v, h, fun fx Z H ρ σ ex w r e x Q k => ?_⟩
  cases e
  exact k d ρ rfl v Z H (.refl w) (hr Z)
theorem se_int {i : Int} {j : Nat} : SE g (.Constant (.int i) j pos) (fC (.int i)) := se_const (fun _ _ => pe_int) fun _ => .int i
theorem se_bl {i : Bool} {j : Nat} : SE g (.Constant (.bool i) j pos) (fC (.bl i)) := se_const (fun _ _ => pe_bl) fun _ => .bl i
theorem se_non {j : Nat} : SE g (.Constant .none j pos) (fC .non) := se_const (fun _ _ => pe_non) fun _ => .non
theorem se_str {i : Str} {j : Nat} : SE g (.Constant (.str i) j pos) (fC (.str i)) := se_const (fun _ _ => pe_str) fun _ => .str i
/-- a module's constant; a class; a built-in type -/
theorem se_glob {x : Str} {v : V} {d : D} {u : Value} (hg : g.sc.names.lookup x = some .globalImplicit) (hm : g.mg x = some u) (r : RelV v u) (hr : ∀ Z, Rep g.K Z v d) (hd : (x == ("__debug__" : Str)) = false := by decide) : SE g (.Name x pos) (fC d) :=
  se_const (fun X is => pe_glob (is.gl hg) (by rw [is.mg]; exact hm) r hd) hr
theorem se_ty {x : Str} {n : String} (hg : g.sc.names.lookup x = some .globalImplicit) (hm : g.mg x = none) (hv : bootBuiltins x = some (.type n)) (hn : x ≠ "__name__" := by decide) (hd : (x == ("__debug__" : Str)) = false := by decide) : SE g (.Name x pos) (fC (.ty n)) :=
  se_const (fun X is => pe_bltn (v := .ty n) (is.gl hg) (by rw [is.mg]; exact hm) hv rfl hn hd) fun _ => .ty n
def fU (o : D → Option D) (fa : F D) : F D := fa.bind fun d => F.of (o d)
def fOp (o : D → D → Option D) (fa fb : F D) : F D := fa.bind fun x => fb.bind fun y => F.of (o x y)
theorem se_un {op : UnaryOp} {r : V → Hp → VK → Prop} {o : D → Option D} (ho : ∀ X, Is g X → UnR X (unaryOp op) r) (hr : UnD g.K r o) (ha : SE g a fa) : SE g (.UnaryOp op a pos) (fU o fa) := by
  obtain ⟨ta, pa, sa⟩ := ha
  refine ⟨tUn r ta, fun X is => pe_un (ho X is) (pa X is), fun fx Z H ρ σ ex w rr e x Q k => ?_⟩
  show ta σ H fun x H1 => r x H1 Q
  refine se_run sa w e x fun d ρ1 v Z1 H1 e1 m1 r1 x1 => ?_
  obtain ⟨d', h1, h2⟩ := of_some e1
  exact hr Z1 H1 v d d' m1.zh r1 h1 Q fun v' Z2 H2 g2 r2 => k d' ρ1 h2 v' Z2 H2 (m1.gr g2) r2
theorem sem_op {r : R2} {o : D → D → Option D} {ta tb : TE} (hr : OpD g.K r o) (sa : SemE g ta fa) (sb : SemE g tb fb) : SemE g (tOp r ta tb) (fOp o fa fb) := fun fx Z H ρ σ ex w rr e x Q k => by
  show ta σ H fun x H1 => tb σ H1 fun y H2 => r x y H2 Q
  refine se_run sa w e x fun dx ρ1 v Z1 H1 e1 m1 r1 x1 => ?_
  refine se_run sb m1.wd e1 x1 fun dy ρ2 u Z2 H2 e2 m2 r2 x2 => ?_
  obtain ⟨d', h1, h2⟩ := of_some e2
  exact hr Z2 H2 v u dx dy d' m2.zh (r1.mono m2.z) r2 h1 Q fun v' Z3 H3 g3 r3 => k d' ρ2 h2 v' Z3 H3 ((m1.trans m2).gr g3) r3
theorem se_bin {op : Operator} {r : R2} {o : D → D → Option D} (ho : ∀ X, Is g X → OpR X (binaryOp op) r) (hr : OpD g.K r o) (ha : SE g a fa) (hb : SE g b fb) : SE g (.BinOp a op b pos) (fOp o fa fb) := by
  obtain ⟨ta, pa, sa⟩ := ha
  obtain ⟨tb, pb, sb⟩ := hb
  exact ⟨tOp r ta tb, fun X is => pe_op (ho X is) (pa X is) (pb X is), sem_op hr sa sb⟩
theorem se_cmp {op : CmpOp} {r : R2} {o : D → D → Option D} (ho : ∀ X, Is g X → OpR X (compareOp op) r) (hr : OpD g.K r o) (ha : SE g a fa) (hb : SE g b fb) (hm : behindInMarks op b = false) : SE g (.Compare a [op] [b] pos) (fOp o fa fb) := by
  obtain ⟨ta, pa, sa⟩ := ha
  obtain ⟨tb, pb, sb⟩ := hb
  exact ⟨tOp r ta tb, fun X is => pe_cmpR (ho X is) (pa X is) (pb X is) hm, sem_op hr sa sb⟩
theorem se_ix {r : R2} {o : D → D → Option D} (ho : ∀ X, Is g X → IxR X r) (hr : OpD g.K r o) (ha : SE g a fa) (hb : SE g b fb) (hs : PlainIx b) : SE g (.Subscript a b pos) (fOp o fa fb) := by
  obtain ⟨ta, pa, sa⟩ := ha
  obtain ⟨tb, pb, sb⟩ := hb
  exact ⟨tOp r ta tb, fun X is => pe_ix (ho X is) (pa X is) (pb X is) hs, sem_op hr sa sb⟩
/-- a thing made, as data -/
def fFrz (f : F W) : F D := f.bind fun w => F.ret (frz w)
theorem se_frz {f : F W} (h : SW g e f) : SE g e (fFrz f) := by
  obtain ⟨te, p, s⟩ := h
  refine ⟨te, p, fun fx Z H ρ σ ex w r e x Q k => ?_⟩
  refine sw_run s w e x fun ww ρ1 v Z1 H1 fp e1 z1 w1 fr r1 x1 => ?_
  cases e1
  obtain ⟨Z2, z2, w2, r2⟩ := w1.freeze r1
  exact k _ ρ1 rfl v Z2 H1 ⟨z1.trans z2, w2, fr⟩ r2
/-- data, as a thing -/
def fVa (f : F D) : F W := f.bind fun d => F.ret (.va d)
theorem sw_va (h : SE g e fa) : SW g e (fVa fa) := by
  obtain ⟨te, p, s⟩ := h
  refine ⟨te, p, fun fx Z H ρ σ ex w r e x Q k => ?_⟩
  refine se_run s w e x fun d ρ1 v Z1 H1 e1 m1 r1 x1 => ?_
  cases e1
  exact k _ ρ1 rfl v Z1 H1 [] m1.z m1.wd m1.fr (.va r1)
/-- an operation that makes a list -/
def fOpL (o : D → D → Option (List D)) (fa fb : F D) : F W := fa.bind fun x => fb.bind fun y => F.of ((o x y).map .ls)
theorem Mv.new {Z1 H1 : Hp} {p : Addr} {o : HO} (m : Mv g fx Z H ρ1 σ ex Z1 H1) (hp : H1 p = none) (hT : ∀ u, NOwn u → o ≠ u := by (rintro _ (⟨_, rfl⟩ | ⟨_, rfl⟩ | ⟨_, _, rfl⟩) z <;> cases z)) : Wd g.K fx Z1 (upd H1 p o) ρ1 σ ([p] ++ ex) ∧ ∀ a ∈ ex, upd H1 p o a = H a := by
  refine ⟨m.wd.made hp hT, fun a ha => ?_⟩
  obtain ⟨fp, h⟩ := m.wd
  have n := h.th a (List.mem_append_right _ ha)
  have na : a ≠ p := fun z => n (z ▸ hp)
  rw [upd_ne na]
  exact m.fr a ha
theorem OkW.list {r : R W} {ρ' : Rho} {xs : List D} {Q : VK} {Z1 H1 : Hp} (k : OkW g fx Z H σ ex r Q) (h : r = .ok (.ls xs) ρ') (m : Mv g fx Z H ρ' σ ex Z1 H1) : FinL g.K Z1 H1 xs Q := fun p vs hp rv => by
  obtain ⟨w, f⟩ := m.new (o := .lst vs) hp
  exact k (.ls xs) ρ' h (.ref p) Z1 _ [p] m.z w f (.ls upd_same rv)
theorem sw_bin {op : Operator} {r : R2} {o : D → D → Option (List D)} (ho : ∀ X, Is g X → OpR X (binaryOp op) r) (hr : OpW g.K r o) (ha : SE g a fa) (hb : SE g b fb) : SW g (.BinOp a op b pos) (fOpL o fa fb) := by
  obtain ⟨ta, pa, sa⟩ := ha
  obtain ⟨tb, pb, sb⟩ := hb
  refine ⟨tOp r ta tb, fun X is => pe_op (ho X is) (pa X is) (pb X is), fun fx Z H ρ σ ex w rr e x Q k => ?_⟩
  show ta σ H fun x H1 => tb σ H1 fun y H2 => r x y H2 Q
  refine se_run sa w e x fun dx ρ1 v Z1 H1 e1 m1 r1 x1 => ?_
  refine se_run sb m1.wd e1 x1 fun dy ρ2 u Z2 H2 e2 m2 r2 x2 => ?_
  obtain ⟨d', h1, h2⟩ := of_some e2
  cases q : o dx dy with
  | none => rw [q] at h1; cases h1
  | some xs =>
    rw [q] at h1
    cases h1
    exact hr Z2 H2 v u dx dy xs m2.zh (r1.mono m2.z) r2 q Q (k.list h2 (m1.trans m2))

/-! ### arguments -/
def aNil : F (List D) := fun ρ => some (.ok [] ρ)
def aCons (f : F D) (r : F (List D)) : F (List D) := f.bind fun d => r.bind fun ds => F.ret (d :: ds)
variable {es : List Expr} {fs : F (List D)}
theorem sa_nil : SA g [] aNil := ⟨tNil, fun _ _ => pa_nil, fun fx Z H ρ σ ex w r e x Q k => by cases e; exact k [] ρ rfl [] Z H (.refl w) .nil⟩
theorem sa_cons (ha : SE g e fa) (hs : SA g es fs) (hst : ∀ env, starEach (e :: es) env = (false, eval e env) :: starEach es env := by intro _; rfl) : SA g (e :: es) (aCons fa fs) := by
  obtain ⟨ta, pa, sa⟩ := ha
  obtain ⟨tb, pb, sb⟩ := hs
  refine ⟨tCons ta tb, fun X is => pa_cons (pa X is) (pb X is) (hst _), fun fx Z H ρ σ ex w r e x Q k => ?_⟩
  show ta σ H fun x H1 => tb σ H1 fun xs H2 => Q (x :: xs) H2
  refine se_run sa w e x fun dx ρ1 v Z1 H1 e1 m1 r1 x1 => ?_
  refine sa_run sb m1.wd e1 x1 fun ds ρ2 vs Z2 H2 e2 m2 r2 x2 => ?_
  cases e2
  exact k _ ρ2 rfl _ Z2 H2 (m1.trans m2) (.cons (r1.mono m2.z) r2)
end
end FL
set_option Elab.async false
set_option linter.all false
set_option maxRecDepth 100000
set_option maxHeartbeats 1000000
/-! FL4: the operations -/
namespace FL
open PySem PySem.Spec PyProof.Rows L2

/-! ### data as PyData -/
mutual
def toPy : D → Option PyData
  | .non => some .none
  | .bl b => some (.bool b)
  | .int i => some (.int i)
  | .str s => some (.str s)
  | .tup xs => (toPys xs).map .tuple
  | .xtp xs => (toPys xs).map .tuple
  | .lst xs => (toPys xs).map .list
  | .xls xs => (toPys xs).map .list
  | _ => none
def toPys : List D → Option (List PyData)
  | [] => some []
  | x :: xs => match toPy x, toPys xs with
    | some p, some ps => some (p :: ps)
    | _, _ => none
end
theorem toPys_nil : toPys [] = some [] := by simp [toPys]
theorem toPys_cons {x : D} {xs : List D} {ps : List PyData} (h : toPys (x :: xs) = some ps) : ∃ p qs, toPy x = some p ∧ toPys xs = some qs ∧ ps = p :: qs := by
  unfold toPys at h
  split at h
  · rename_i p qs e1 e2
    exact ⟨p, qs, e1, e2, (Option.some.inj h).symm⟩
  · cases h
section
variable {K : PySem.W.Frag} {Z H : Hp}
mutual
theorem Rep.dp (z : Zle Z H) : ∀ {v : V} {d : D} {p : PyData}, Rep K Z v d → toPy d = some p → Dp K H v p
  | _, _, _, .non, e => by simp [toPy] at e; subst e; exact .non
  | _, _, _, .bl b, e => by simp [toPy] at e; subst e; exact .bl b
  | _, _, _, .int b, e => by simp [toPy] at e; subst e; exact .int b
  | _, _, _, .str b, e => by simp [toPy] at e; subst e; exact .str b
  | _, _, _, .ty _, e => by simp [toPy] at e
  | _, _, _, .cls _, e => by simp [toPy] at e
  | _, _, _, .tup h r, e => by
    simp only [toPy, Option.map_eq_some_iff] at e
    obtain ⟨ps, e1, rfl⟩ := e
    exact .tup (.of (z _ _ h)) (Reps.dp z r e1)
  | _, _, _, .xtp h r, e => by
    simp only [toPy, Option.map_eq_some_iff] at e
    obtain ⟨ps, e1, rfl⟩ := e
    exact .tup (z.sqT h) (Reps.dp z r e1)
  | _, _, _, .lst h r, e => by
    simp only [toPy, Option.map_eq_some_iff] at e
    obtain ⟨ps, e1, rfl⟩ := e
    exact .lst (.of (z _ _ h)) (Reps.dp z r e1)
  | _, _, _, .xls h r, e => by
    simp only [toPy, Option.map_eq_some_iff] at e
    obtain ⟨ps, e1, rfl⟩ := e
    exact .lst (z.sqL h) (Reps.dp z r e1)
  | _, _, _, .dk _ _ _, e => by simp [toPy] at e
  | _, _, _, .dt _ _ _, e => by simp [toPy] at e
  | _, _, _, .ldt _ _ _, e => by simp [toPy] at e
  | _, _, _, .obj _ _ _, e => by simp [toPy] at e
theorem Reps.dp (z : Zle Z H) : ∀ {vs : List V} {ds : List D} {ps : List PyData}, Reps K Z vs ds → toPys ds = some ps → DpAll K H vs ps
  | _, _, _, .nil, e => by simp [toPys] at e; subst e; exact .nil
  | _, _, _, .cons h r, e => by
    obtain ⟨p, qs, e1, e2, rfl⟩ := toPys_cons e
    exact .cons (Rep.dp z h e1) (Reps.dp z r e2)
end
/-! ### a list, a tuple, read -/
/-- the items of a sequence -/
def sqT? : D → Option (List D)
  | .tup xs => some xs
  | .xtp xs => some xs
  | _ => none
def sqL? : D → Option (List D)
  | .lst xs => some xs
  | .xls xs => some xs
  | _ => none
def sq? (d : D) : Option (List D) := (sqT? d).or (sqL? d)
theorem Rep.sqT (z : Zle Z H) {v : V} {d : D} {xs : List D} (r : Rep K Z v d) (e : sqT? d = some xs) : ∃ a vs, v = .ref a ∧ SqT K H a vs ∧ Reps K Z vs xs := by
  cases r with
  | tup h r => simp [sqT?] at e; subst e; exact ⟨_, _, rfl, .of (z _ _ h), r⟩
  | xtp h r => simp [sqT?] at e; subst e; exact ⟨_, _, rfl, z.sqT h, r⟩
  | _ => simp [sqT?] at e
theorem Rep.sqL (z : Zle Z H) {v : V} {d : D} {xs : List D} (r : Rep K Z v d) (e : sqL? d = some xs) : ∃ a vs, v = .ref a ∧ SqL K H a vs ∧ Reps K Z vs xs := by
  cases r with
  | lst h r => simp [sqL?] at e; subst e; exact ⟨_, _, rfl, .of (z _ _ h), r⟩
  | xls h r => simp [sqL?] at e; subst e; exact ⟨_, _, rfl, z.sqL h, r⟩
  | _ => simp [sqL?] at e
theorem sq_cases {d : D} {xs : List D} (e : sq? d = some xs) : sqT? d = some xs ∨ sqL? d = some xs := by
  unfold sq? at e
  cases q : sqT? d with
  | some y => rw [q] at e; exact .inl (by simpa using e)
  | none => rw [q] at e; exact .inr (by simpa using e)

/-! ### arithmetic -/
def oInt (o : Int → Int → Option D) : D → D → Option D
  | .int i, .int j => o i j
  | _, _ => none
theorem opd_rI {C : Int → Int → Prop} {f : Int → Int → V} {o : Int → Int → Option D} (h : ∀ i j d, o i j = some d → C i j ∧ ∀ Z, Rep K Z (f i j) d) : OpD K (rI C f) (oInt o) := by
  intro Z H x y dx dy d z rx ry e Q k
  cases rx with
  | int i =>
    cases ry with
    | int j =>
      obtain ⟨h1, h2⟩ := h i j d e
      exact ⟨i, j, rfl, rfl, h1, k _ Z H (.refl z) (h2 Z)⟩
    | _ => simp [oInt] at e
  | _ => simp [oInt] at e
theorem opd_rI0 {f : Int → Int → V} {o : Int → Int → Option D} (h : ∀ i j d, o i j = some d → ∀ Z, Rep K Z (f i j) d) : OpD K (rI0 f) (oInt o) := by
  intro Z H x y dx dy d z rx ry e Q k
  cases rx with
  | int i =>
    cases ry with
    | int j => exact ⟨i, j, rfl, rfl, k _ Z H (.refl z) (h i j d e Z)⟩
    | _ => simp [oInt] at e
  | _ => simp [oInt] at e
def oAddI := oInt fun i j => some (.int (i + j))
def oSub := oInt fun i j => some (.int (i - j))
def oMulI := oInt fun i j => if (-(2 ^ 64) < i ∧ i < 2 ^ 64) ∨ (-(2 ^ 64) < j ∧ j < 2 ^ 64) then some (.int (i * j)) else none
def oDiv := oInt fun i j => if 0 < j ∧ j < 1073741824 then some (.int (i / j)) else none
def oMod := oInt fun i j => if 0 < j then some (.int (i % j)) else none
def oPow := oInt fun i j => if 0 ≤ j ∧ j ≤ 1000000 ∧ i.natAbs < 2 ^ 64 then some (.int (i ^ j.toNat)) else none
def oLt := oInt fun i j => some (.bl (decide (i < j)))
def oLe := oInt fun i j => some (.bl (decide (i ≤ j)))
def oGt := oInt fun i j => some (.bl (decide (j < i)))
def oGe := oInt fun i j => some (.bl (decide (j ≤ i)))
theorem opd_addI : OpD K (rI0 fun i j => .int (i + j)) oAddI := opd_rI0 fun i j d e Z => by cases e; exact .int _
theorem opd_sub : OpD K (rI0 fun i j => .int (i - j)) oSub := opd_rI0 fun i j d e Z => by cases e; exact .int _
theorem opd_lt : OpD K (rI0 fun i j => .bl (decide (i < j))) oLt := opd_rI0 fun i j d e Z => by cases e; exact .bl _
theorem opd_le : OpD K (rI0 fun i j => .bl (decide (i ≤ j))) oLe := opd_rI0 fun i j d e Z => by cases e; exact .bl _
theorem opd_gt : OpD K (rI0 fun i j => .bl (decide (j < i))) oGt := opd_rI0 fun i j d e Z => by cases e; exact .bl _
theorem opd_ge : OpD K (rI0 fun i j => .bl (decide (j ≤ i))) oGe := opd_rI0 fun i j d e Z => by cases e; exact .bl _
theorem opd_mulI : OpD K (rI CMul fun i j => .int (i * j)) oMulI := opd_rI fun i j d e => by
  by_cases h : (-(2 ^ 64) < i ∧ i < 2 ^ 64) ∨ (-(2 ^ 64) < j ∧ j < 2 ^ 64)
  · rw [if_pos h] at e; exact ⟨h, fun Z => by cases e; exact .int _⟩
  · rw [if_neg h] at e; cases e
theorem opd_div : OpD K (rI CDiv fun i j => .int (i / j)) oDiv := opd_rI fun i j d e => by
  by_cases h : 0 < j ∧ j < 1073741824
  · rw [if_pos h] at e; exact ⟨h, fun Z => by cases e; exact .int _⟩
  · rw [if_neg h] at e; cases e
theorem opd_mod : OpD K (rI (fun _ j => 0 < j) fun i j => .int (i % j)) oMod := opd_rI fun i j d e => by
  by_cases h : 0 < j
  · rw [if_pos h] at e; exact ⟨h, fun Z => by cases e; exact .int _⟩
  · rw [if_neg h] at e; cases e
theorem opd_pow : OpD K (rI CPow fun i j => .int (i ^ j.toNat)) oPow := opd_rI fun i j d e => by
  by_cases h : 0 ≤ j ∧ j ≤ 1000000 ∧ i.natAbs < 2 ^ 64
  · rw [if_pos h] at e; exact ⟨h, fun Z => by cases e; exact .int _⟩
  · rw [if_neg h] at e; cases e
def oNeg : D → Option D
  | .int i => some (.int (-i))
  | _ => none
theorem und_neg : UnD K (rU fun i => .int (-i)) oNeg := by
  intro Z H x dx d z rx e Q k
  cases rx with
  | int i => cases e; exact ⟨i, rfl, k _ Z H (.refl z) (.int _)⟩
  | _ => simp [oNeg] at e

/-! ### + of texts, lists, tuples -/
def oAddS : D → D → Option D
  | .str x, .str y => if x.length + y.length ≤ sizeLine then some (.str (x ++ y)) else none
  | _, _ => none
def rAddStr : R2 := fun x y H Q => ∃ i j, x = .str i ∧ y = .str j ∧ i.length + j.length ≤ sizeLine ∧ Q (.str (i ++ j)) H
theorem opd_addS : OpD K rAddStr oAddS := by
  intro Z H x y dx dy d z rx ry e Q k
  cases rx with
  | str i =>
    cases ry with
    | str j =>
      by_cases h : i.length + j.length ≤ sizeLine
      · simp only [oAddS, if_pos h] at e
        cases e
        exact ⟨i, j, rfl, rfl, h, k _ Z H (.refl z) (.str _)⟩
      · simp only [oAddS, if_neg h] at e
        cases e
    | _ => simp [oAddS] at e
  | _ => simp [oAddS] at e
def oCat : D → D → Option (List D)
  | .lst xs, .lst ys => if xs.length + ys.length ≤ sizeLine then some (xs ++ ys) else none
  | _, _ => none
theorem opw_cat : OpW K rCat oCat := by
  intro Z H x y dx dy d z rx ry e Q k
  cases rx with
  | lst hx rx =>
    cases ry with
    | lst hy ry =>
      simp only [oCat] at e
      split at e
      · rename_i h
        cases e
        exact ⟨_, _, _, _, rfl, rfl, z _ _ hx, z _ _ hy, by rw [rx.length, ry.length]; exact h, fun p hp => k p _ hp (rx.append ry)⟩
      · cases e
    | _ => simp [oCat] at e
  | _ => simp [oCat] at e
/-- a list, as data -/
theorem FinL.fin {xs : List D} {Q : VK} (z : Zle Z H) (k : Fin K Z H (.lst xs) Q) : FinL K Z H xs Q := fun p vs hp r =>
  k _ _ _ (Gr.data z hp) (.lst upd_same (r.mono (Gr.data (o := .lst vs) z hp).z))
theorem FinL.tup {xs : List D} {vs : List V} {p : Addr} {Q : VK} (z : Zle Z H) (k : Fin K Z H (.tup xs) Q) (hp : H p = none) (r : Reps K Z vs xs) : Q (.ref p) (upd H p (.tup vs)) :=
  k _ _ _ (Gr.data z hp) (.tup upd_same (r.mono (Gr.data (o := .tup vs) z hp).z))
theorem OpW.d {r : R2} {o : D → D → Option (List D)} (h : OpW K r o) : OpD K r (fun x y => (o x y).map .lst) := by
  intro Z H x y dx dy d z rx ry e Q k
  have e : (o dx dy).map D.lst = some d := e
  cases q : o dx dy with
  | none => rw [q] at e; cases e
  | some xs =>
    rw [q] at e
    cases e
    exact h Z H x y dx dy xs z rx ry q Q (FinL.fin z k)
def oCatT : D → D → Option D
  | .tup xs, .tup ys => if xs.length + ys.length ≤ sizeLine then some (.tup (xs ++ ys)) else none
  | _, _ => none
theorem opd_catT : OpD K (rCatA K) oCatT := by
  intro Z H x y dx dy d z rx ry e Q k
  cases rx with
  | tup hx rx =>
    cases ry with
    | tup hy ry =>
      simp only [oCatT] at e
      split at e
      · rename_i h
        cases e
        refine ⟨_, _, _, _, rfl, rfl, .of (z _ _ hx), .of (z _ _ hy), by rw [rx.length, ry.length]; exact h, fun n => ?_, fun _ n => ?_, fun _ _ p hp => FinL.tup z k hp (rx.append ry)⟩
        · subst n
          cases rx
          exact k.now z (.tup hy ry)
        · subst n
          cases ry
          rw [List.append_nil] at k
          exact k.now z (.tup hx rx)
      · cases e
    | _ => simp [oCatT] at e
  | _ => simp [oCatT] at e
def oAdd (x y : D) : Option D := (oAddI x y).or ((oAddS x y).or ((oCatT x y).or ((oCat x y).map .lst)))
def rAddA (K : PySem.W.Frag) : R2 := fun x y H Q => rI0 (fun i j => .int (i + j)) x y H Q ∨ (rAddStr x y H Q ∨ (rCatA K x y H Q ∨ rCat x y H Q))
theorem opd_add : OpD K (rAddA K) oAdd := opd_addI.or (opd_addS.or (opd_catT.or opw_cat.d))
theorem opr_add {X : Cx} : OpR X (binaryOp .Add) (rAddA X.K) := op_add.or (op_add_str.or (op_catA.or op_cat))
/-! ### * -/
def oRep : D → D → Option (List D)
  | .lst xs, .int k => if -(2 ^ 63) ≤ k ∧ k < 2 ^ 63 ∧ xs.length * k.toNat ≤ sizeLine then some (List.replicate k.toNat xs).flatten else none
  | _, _ => none
theorem opw_rep : OpW K rRep oRep := by
  intro Z H x y dx dy d z rx ry e Q k
  cases rx with
  | lst hx rx =>
    cases ry with
    | int j =>
      simp only [oRep] at e
      split at e
      · rename_i h
        cases e
        refine ⟨_, _, _, rfl, rfl, z _ _ hx, h.1, h.2.1, by rw [rx.length]; exact h.2.2, fun p hp => k p _ hp (rx.rep _)⟩
      · cases e
    | _ => simp [oRep] at e
  | _ => simp [oRep] at e
def oRepT : D → D → Option D
  | .tup xs, .int k => if xs ≠ [] ∧ 2 ≤ k ∧ k ≤ 1000 ∧ xs.length ≤ 1000 then some (.tup (List.replicate k.toNat xs).flatten) else none
  | _, _ => none
theorem opd_repT : OpD K (rRepT K) oRepT := by
  intro Z H x y dx dy d z rx ry e Q k
  cases rx with
  | tup hx rx =>
    cases ry with
    | int j =>
      simp only [oRepT] at e
      split at e
      · rename_i h
        cases e
        refine ⟨_, _, _, rfl, rfl, .of (z _ _ hx), fun n => h.1 ?_, h.2.1, h.2.2.1, by rw [rx.length]; exact h.2.2.2, fun p hp => FinL.tup z k hp (rx.rep _)⟩
        subst n
        cases rx
        rfl
      · cases e
    | _ => simp [oRepT] at e
  | _ => simp [oRepT] at e
def oMul (x y : D) : Option D := (oMulI x y).or (((oRep x y).map .lst).or (oRepT x y))
def rMulA (K : PySem.W.Frag) : R2 := fun x y H Q => rI CMul (fun i j => .int (i * j)) x y H Q ∨ (rRep x y H Q ∨ rRepT K x y H Q)
theorem opd_mul : OpD K (rMulA K) oMul := opd_mulI.or (opw_rep.d.or opd_repT)
theorem opr_mul {X : Cx} : OpR X (binaryOp .Mult) (rMulA X.K) := op_mul.or (op_rep.or op_repT)

/-! ### ==, != -/
def oEq (x y : D) : Option D := match toPy x, toPy y with
  | some p, some q => if SeqAt.shaped p = true ∧ SeqAt.shaped q = true then some (.bl (PyData.eqv p q)) else none
  | _, _ => none
def oNe (x y : D) : Option D := match toPy x, toPy y with
  | some p, some q => if SeqAt.shaped p = true ∧ SeqAt.shaped q = true then some (.bl (!PyData.eqv p q)) else none
  | _, _ => none
theorem opd_eq : OpD K (rEqD K) oEq := by
  intro Z H x y dx dy d z rx ry e Q k
  unfold oEq at e
  split at e
  · rename_i p q e1 e2
    split at e
    · rename_i h
      cases e
      exact ⟨p, q, rx.dp z e1, ry.dp z e2, h.1, h.2, k.now z (.bl _)⟩
    · cases e
  · cases e
theorem opd_ne : OpD K (rNeD K) oNe := by
  intro Z H x y dx dy d z rx ry e Q k
  unfold oNe at e
  split at e
  · rename_i p q e1 e2
    split at e
    · rename_i h
      cases e
      exact ⟨p, q, rx.dp z e1, ry.dp z e2, h.1, h.2, k.now z (.bl _)⟩
    · cases e
  · cases e
/-! ### is None -/
def oIsN (x y : D) : Option D := match y, x with
  | .non, .non => some (.bl true)
  | .non, .ty _ => none
  | .non, _ => some (.bl false)
  | _, _ => none
def oNotN (x y : D) : Option D := match y, x with
  | .non, .non => some (.bl false)
  | .non, .ty _ => none
  | .non, _ => some (.bl true)
  | _, _ => none
theorem opd_isN : OpD K rIsN oIsN := by
  intro Z H x y dx dy d z rx ry e Q k
  cases ry with
  | non =>
    refine ⟨rfl, ?_⟩
    cases rx <;> simp [oIsN] at e <;> subst e <;> exact k.now z (.bl _)
  | _ => cases rx <;> simp [oIsN] at e
theorem opd_notN : OpD K rNotN oNotN := by
  intro Z H x y dx dy d z rx ry e Q k
  cases ry with
  | non =>
    refine ⟨rfl, ?_⟩
    cases rx <;> simp [oNotN] at e <;> subst e <;> exact k.now z (.bl _)
  | _ => cases rx <;> simp [oNotN] at e
/-! ### in -/
def flatD : D → Option V
  | .non => some .non
  | .bl b => some (.bl b)
  | .int i => some (.int i)
  | .str s => some (.str s)
  | _ => none
def flatDs : List D → Option (List V)
  | [] => some []
  | x :: xs => match flatD x, flatDs xs with
    | some v, some vs => some (v :: vs)
    | _, _ => none
theorem Rep.flat {v : V} {d : D} {u : V} (r : Rep K Z v d) (e : flatD d = some u) : v = u ∧ flatV v = true := by
  cases r <;> simp [flatD] at e <;> subst e <;> exact ⟨rfl, rfl⟩
theorem Reps.flat : ∀ {vs : List V} {ds : List D} {us : List V}, Reps K Z vs ds → flatDs ds = some us → vs = us ∧ vs.all flatV = true
  | _, _, _, .nil, e => by simp [flatDs] at e; subst e; exact ⟨rfl, rfl⟩
  | _, _, _, .cons h r, e => by
    unfold flatDs at e
    split at e
    · rename_i u us e1 e2
      cases e
      obtain ⟨h1, h2⟩ := h.flat e1
      obtain ⟨h3, h4⟩ := Reps.flat r e2
      exact ⟨by rw [h1, h3], by rw [List.all_cons, h2, h4]; rfl⟩
    · cases e
/-- in a list or tuple of flat items -/
def oIn (neg : Bool) (x y : D) : Option D := match sq? y with
  | some ys => match flatD x, flatDs ys with
    | some u, some us => some (.bl (if neg then !inV u us else inV u us))
    | _, _ => none
  | none => none
theorem opd_in {neg : Bool} : OpD K (rIn K neg) (oIn neg) := by
  intro Z H x y dx dy d z rx ry e Q k
  unfold oIn at e
  split at e
  · rename_i ys q
    split at e
    · rename_i u us e1 e2
      cases e
      obtain ⟨h1, h2⟩ := rx.flat e1
      subst h1
      rcases sq_cases q with q | q
      · obtain ⟨a, vs, rfl, h, r⟩ := ry.sqT z q
        obtain ⟨h3, h4⟩ := r.flat e2
        subst h3
        exact ⟨a, _, rfl, .inr h, h2, h4, k.now z (.bl _)⟩
      · obtain ⟨a, vs, rfl, h, r⟩ := ry.sqL z q
        obtain ⟨h3, h4⟩ := r.flat e2
        subst h3
        exact ⟨a, _, rfl, .inl h, h2, h4, k.now z (.bl _)⟩
    · cases e
  · cases e
/-- one sign in a text -/
def oInS (neg : Bool) : D → D → Option D
  | .str x, .str y => match x.cps.toList with
    | [c] => some (.bl (if neg then !decide (c ∈ y.cps.toList) else decide (c ∈ y.cps.toList)))
    | _ => none
  | _, _ => none
theorem str_one {x : Str} {c : Nat} (h : x.cps.toList = [c]) : x = ⟨#[c]⟩ := by
  obtain ⟨cs⟩ := x
  obtain ⟨l⟩ := cs
  simp only at h
  rw [h]
theorem opd_inS : OpD K rInS (oInS false) := by
  intro Z H x y dx dy d z rx ry e Q k
  cases rx with
  | str x =>
    cases ry with
    | str y =>
      simp only [oInS] at e
      split at e
      · rename_i c hc
        cases e
        exact ⟨c, y, by rw [str_one hc], rfl, k.now z (.bl _)⟩
      · cases e
    | _ => simp [oInS] at e
  | _ => simp [oInS] at e
theorem opd_notInS : OpD K rNotInS (oInS true) := by
  intro Z H x y dx dy d z rx ry e Q k
  cases rx with
  | str x =>
    cases ry with
    | str y =>
      simp only [oInS] at e
      split at e
      · rename_i c hc
        cases e
        exact ⟨c, y, by rw [str_one hc], rfl, k.now z (.bl _)⟩
      · cases e
    | _ => simp [oInS] at e
  | _ => simp [oInS] at e
def oInA (x y : D) : Option D := (oInS false x y).or (oIn false x y)
def oNotInA (x y : D) : Option D := (oInS true x y).or (oIn true x y)
theorem opd_inA : OpD K (fun x y H Q => rInS x y H Q ∨ rIn K false x y H Q) oInA := opd_inS.or opd_in
theorem opd_notInA : OpD K (fun x y H Q => rNotInS x y H Q ∨ rIn K true x y H Q) oNotInA := opd_notInS.or opd_in
/-! ### an item -/
def oIxT : D → D → Option D
  | x, .int i => match sq? x with
    | some xs => atI xs i
    | none => none
  | _, _ => none
theorem Reps.atI {vs : List V} {ds : List D} {i : Int} {d : D} (r : Reps K Z vs ds) (e : L2.atI ds i = some d) : ∃ v, L2.atI vs i = some v ∧ Rep K Z v d := by
  unfold L2.atI at e ⊢
  rw [r.length]
  cases q : ixN ds.length i with
  | none => rw [q] at e; cases e
  | some j =>
    rw [q] at e
    exact r.get (by simpa using e)
theorem opd_ix : OpD K (rIx K) oIxT := by
  intro Z H x y dx dy d z rx ry e Q k
  cases ry with
  | int i =>
    simp only [oIxT] at e
    split at e
    · rename_i xs q
      rcases sq_cases q with q | q
      · obtain ⟨a, vs, rfl, h, r⟩ := rx.sqT z q
        obtain ⟨v, h1, h2⟩ := r.atI e
        exact .inr (.inl ⟨a, vs, i, v, rfl, rfl, h, h1, k.now z h2⟩)
      · obtain ⟨a, vs, rfl, h, r⟩ := rx.sqL z q
        obtain ⟨v, h1, h2⟩ := r.atI e
        exact .inl ⟨a, vs, i, v, rfl, rfl, h, h1, k.now z h2⟩
    · cases e
  | _ => simp [oIxT] at e
/-- a text's sign -/
def oIxS : D → D → Option D
  | .str x, .int i => if x.length ≤ sizeLine then (atI x.cps.toList i).map fun c => .str ⟨#[c]⟩ else none
  | _, _ => none
theorem opd_ixS : OpD K (rIx K) oIxS := by
  intro Z H x y dx dy d z rx ry e Q k
  cases rx with
  | str x =>
    cases ry with
    | int i =>
      simp only [oIxS] at e
      split at e
      · rename_i h
        cases q : L2.atI x.cps.toList i with
        | none => rw [q] at e; cases e
        | some c =>
          rw [q] at e
          cases e
          exact .inr (.inr ⟨x, i, c, rfl, rfl, h, q, k.now z (.str _)⟩)
      · cases e
    | _ => simp [oIxS] at e
  | _ => simp [oIxS] at e
def oIx (x y : D) : Option D := (oIxT x y).or (oIxS x y)
theorem OpD.alt {r : R2} {o o' : D → D → Option D} (a : OpD K r o) (b : OpD K r o') : OpD K r (fun x y => (o x y).or (o' x y)) := by
  intro Z H x y dx dy d z rx ry e Q f
  cases q : o dx dy with
  | some d1 =>
    have e' : d1 = d := by simpa [q] using e
    subst e'
    exact a Z H x y dx dy _ z rx ry q Q f
  | none => exact b Z H x y dx dy d z rx ry (by simpa [q] using e) Q f
theorem opd_ixA : OpD K (rIx K) oIx := opd_ix.alt opd_ixS
/-! ### slices -/
def cutD (xs : List D) (lo hi : Option Int) : List D := (xs.drop (HT.sIx xs.length 0 lo)).take (HT.sIx xs.length xs.length hi - HT.sIx xs.length 0 lo)
theorem Reps.cut {vs : List V} {ds : List D} (r : Reps K Z vs ds) (lo hi : Option Int) : Reps K Z (cutV vs lo hi) (cutD ds lo hi) := by
  unfold cutV cutD
  rw [r.length]
  exact (r.drop _).take _
theorem cutD_whole {xs : List D} {lo hi : Option Int} (h : HT.sIx xs.length 0 lo = 0 ∧ HT.sIx xs.length xs.length hi = xs.length) : cutD xs lo hi = xs := by
  unfold cutD
  rw [h.1, h.2, List.drop_zero, Nat.sub_zero, List.take_length]
/-- a tuple's slice -/
def oSlT (x : D) (lo hi : Option Int) : Option D := match x with
  | .tup xs => some (.tup (cutD xs lo hi))
  | _ => none
/-- a list's slice -/
def oSlL (x : D) (lo hi : Option Int) : Option (List D) := (sqL? x).map fun xs => cutD xs lo hi
end
end FL
set_option Elab.async false
set_option linter.all false
set_option maxRecDepth 100000
set_option maxHeartbeats 1000000
/-! FL5: tests, conditional expressions, slices, displays, calls of built-ins, fields -/
namespace FL
open PySem PySem.Spec PyProof.Rows L2
section
variable {g : Gm} {fx : Fx} {Z Z' H H' : Hp} {ρ ρ1 : Rho} {σ : L2.St} {ex : List Addr} {α β : Type}
variable {e a b c : Expr} {fa fb fc : F D} {pos : Pos} {es : List Expr} {fs : F (List D)} {ga gb : F Bool} {rest : List Expr}

def bl? : D → Option Bool
  | .bl b => some b
  | _ => none
theorem Rep.bl? {K : PySem.W.Frag} {v : V} {d : D} {b : Bool} (r : Rep K Z v d) (e : FL.bl? d = some b) : v = .bl b := by
  cases r <;> simp [FL.bl?] at e
  subst e; rfl
/-- a value that is a bool, as a test -/
def fT (f : F D) : F Bool := f.bind fun d => F.of (bl? d)
theorem sem_test {te : TE} (sa : SemE g te fa) : SemT g (tTest te) (fT fa) := fun fx Z H ρ σ ex w rr e x Q k => by
  show te σ H fun x H' => ∃ k, x = .bl k ∧ Q k H'
  refine se_run sa w e x fun d ρ1 v Z1 H1 e1 m1 r1 x1 => ?_
  obtain ⟨b, h1, h2⟩ := of_some e1
  exact ⟨b, r1.bl? h1, k b ρ1 h2 Z1 H1 m1⟩
theorem st_val (ha : SE g e fa) (he : ∀ env whole, isTrue e env whole = (do let v ← whole; standAt e.pos; holding [v] (truthy v)) := by intro _ _; rfl) : ST g e (fT fa) := by
  obtain ⟨ta, pa, sa⟩ := ha
  exact ⟨tTest ta, fun X is => pt_val (pa X is) (he _), sem_test sa⟩
theorem st_cmp {op : CmpOp} {r : R2} {o : D → D → Option D} (ho : ∀ X, Is g X → OpR X (compareOp op) r) (hr : OpD g.K r o) (ha : SE g a fa) (hb : SE g b fb) (hm : behindInMarks op b = false) : ST g (.Compare a [op] [b] pos) (fT (fOp o fa fb)) := by
  obtain ⟨ta, pa, sa⟩ := ha
  obtain ⟨tb, pb, sb⟩ := hb
  exact ⟨tTest (tOp r ta tb), fun X is => pt_cmpR (ho X is) (pa X is) (pb X is) hm, sem_test (sem_op hr sa sb)⟩
/-- a < b < c -/
def fChain (o o' : D → D → Option D) (fa fb fc : F D) : F D := fa.bind fun x => fb.bind fun y => (F.of ((o x y).bind bl?)).bind fun k => if k then fc.bind fun z => F.of (o' y z) else F.ret (.bl false)
theorem sem_chain {r r' : R2} {o o' : D → D → Option D} {ta tb tc : TE} (hr : OpD g.K r o) (hr' : OpD g.K r' o') (sa : SemE g ta fa) (sb : SemE g tb fb) (sc : SemE g tc fc) : SemE g (tChain r r' ta tb tc) (fChain o o' fa fb fc) := fun fx Z H ρ σ ex w rr e x Q k => by
  show ta σ H fun x H1 => tb σ H1 fun y H2 => r x y H2 fun z H3 => ∃ k, z = .bl k ∧ (if k = true then tc σ H3 fun w' H4 => r' y w' H4 Q else Q (.bl false) H3)
  refine se_run sa w e x fun dx ρ1 v Z1 H1 e1 m1 r1 x1 => ?_
  refine se_run sb m1.wd e1 x1 fun dy ρ2 u Z2 H2 e2 m2 r2 x2 => ?_
  rcases bind_some e2 with ⟨kk, ρ3, e3, e4⟩ | ⟨xx, ρ3, e3, _⟩
  · obtain ⟨kb, h1, h2⟩ := of_some e3
    cases h2
    cases q : o dx dy with
    | none => rw [q] at h1; cases h1
    | some d0 =>
      rw [q] at h1
      have h1 : bl? d0 = some kk := h1
      refine hr Z2 H2 v u dx dy d0 m2.zh (r1.mono m2.z) r2 q _ fun v' Z3 H3 g3 r3 => ⟨kk, r3.bl? h1, ?_⟩
      have m3 := (m1.trans m2).gr g3
      cases kk with
      | true =>
        rw [if_pos rfl] at e4 ⊢
        refine se_run sc m3.wd e4 (x2.mono ((Mv.refl m2.wd).gr g3)) fun dz ρ4 w' Z4 H4 e5 m4 r4 x4 => ?_
        obtain ⟨d', q1, q2⟩ := of_some e5
        exact hr' Z4 H4 u w' dy dz d' m4.zh (r2.mono (g3.z.trans m4.z)) r4 q1 Q fun v'' Z5 H5 g5 r5 => k d' ρ4 q2 v'' Z5 H5 ((m3.trans m4).gr g5) r5
      | false =>
        rw [if_neg Bool.false_ne_true] at e4 ⊢
        cases e4
        exact k _ _ rfl _ Z3 H3 m3 (.bl false)
  · obtain ⟨_, _, z⟩ := of_some e3
    cases z
theorem se_chain {op op' : CmpOp} {r r' : R2} {o o' : D → D → Option D} (ho : ∀ X, Is g X → OpR X (compareOp op) r) (hr : OpD g.K r o) (ho' : ∀ X, Is g X → OpR X (compareOp op') r') (hr' : OpD g.K r' o') (ha : SE g a fa) (hb : SE g b fb) (hc : SE g c fc)
    (hm : lastMarks [op, op'] [b, c] = false := by with_unfolding_all rfl) : SE g (.Compare a [op, op'] [b, c] pos) (fChain o o' fa fb fc) := by
  obtain ⟨ta, pa, sa⟩ := ha
  obtain ⟨tb, pb, sb⟩ := hb
  obtain ⟨tc, pc, sc⟩ := hc
  exact ⟨tChain r r' ta tb tc, fun X is => pe_chain (ho X is) (ho' X is) (pa X is) (pb X is) (pc X is) hm, sem_chain hr hr' sa sb sc⟩
theorem st_chain {op op' : CmpOp} {r r' : R2} {o o' : D → D → Option D} (ho : ∀ X, Is g X → OpR X (compareOp op) r) (hr : OpD g.K r o) (ho' : ∀ X, Is g X → OpR X (compareOp op') r') (hr' : OpD g.K r' o') (ha : SE g a fa) (hb : SE g b fb) (hc : SE g c fc)
    (hm : lastMarks [op, op'] [b, c] = false := by with_unfolding_all rfl) : ST g (.Compare a [op, op'] [b, c] pos) (fT (fChain o o' fa fb fc)) := by
  obtain ⟨ta, pa, sa⟩ := ha
  obtain ⟨tb, pb, sb⟩ := hb
  obtain ⟨tc, pc, sc⟩ := hc
  exact ⟨tTest (tChain r r' ta tb tc), fun X is => pt_chain (ho X is) (ho' X is) (pa X is) (pb X is) (pc X is) hm, sem_test (sem_chain hr hr' sa sb sc)⟩

/-! ### and, or, not -/
def gAnd (ga gb : F Bool) : F Bool := ga.bind fun k => if k then gb else F.ret false
def gOr (ga gb : F Bool) : F Bool := ga.bind fun k => if k then F.ret true else gb
def gNot (ga : F Bool) : F Bool := ga.bind fun k => F.ret (!k)
theorem stw_and1 (h : ST g a ga) : STw g (.BoolOp .And [a] pos) ga := by
  obtain ⟨t, p, s⟩ := h
  exact ⟨t, fun X is => pw_and1 (p X is), s⟩
theorem stw_or1 (h : ST g a ga) : STw g (.BoolOp .Or [a] pos) ga := by
  obtain ⟨t, p, s⟩ := h
  exact ⟨t, fun X is => pw_or1 (p X is), s⟩
theorem stw_and (ha : ST g a ga) (hb : STw g (.BoolOp .And (b :: rest) pos) gb) : STw g (.BoolOp .And (a :: b :: rest) pos) (gAnd ga gb) := by
  obtain ⟨ta, pa, sa⟩ := ha
  obtain ⟨tb, pb, sb⟩ := hb
  refine ⟨tAnd ta tb, fun X is => pw_and (pa X is) (pb X is), fun fx Z H ρ σ ex w rr e x Q k => ?_⟩
  show ta σ H fun c H1 => if c = true then tb σ H1 Q else Q false H1
  refine st_run sa w e x fun kb ρ1 Z1 H1 e1 m1 x1 => ?_
  cases kb with
  | true =>
    rw [if_pos rfl] at e1 ⊢
    exact sb fx Z1 H1 ρ1 σ ex m1.wd _ e1 x1 Q fun b' ρ2 h Z2 H2 m2 => k b' ρ2 h Z2 H2 (m1.trans m2)
  | false =>
    rw [if_neg Bool.false_ne_true] at e1 ⊢
    cases e1
    exact k _ _ rfl Z1 H1 m1
theorem stw_or (ha : ST g a ga) (hb : STw g (.BoolOp .Or (b :: rest) pos) gb) : STw g (.BoolOp .Or (a :: b :: rest) pos) (gOr ga gb) := by
  obtain ⟨ta, pa, sa⟩ := ha
  obtain ⟨tb, pb, sb⟩ := hb
  refine ⟨tOr ta tb, fun X is => pw_or (pa X is) (pb X is), fun fx Z H ρ σ ex w rr e x Q k => ?_⟩
  show ta σ H fun c H1 => if c = true then Q true H1 else tb σ H1 Q
  refine st_run sa w e x fun kb ρ1 Z1 H1 e1 m1 x1 => ?_
  cases kb with
  | true =>
    rw [if_pos rfl] at e1 ⊢
    cases e1
    exact k _ _ rfl Z1 H1 m1
  | false =>
    rw [if_neg Bool.false_ne_true] at e1 ⊢
    exact sb fx Z1 H1 ρ1 σ ex m1.wd _ e1 x1 Q fun b' ρ2 h Z2 H2 m2 => k b' ρ2 h Z2 H2 (m1.trans m2)
theorem st_w (h : STw g a ga) : ST g a ga := by
  obtain ⟨t, p, s⟩ := h
  exact ⟨t, fun X is => (p X is).pt, s⟩
theorem st_not (ha : ST g a ga) : ST g (.UnaryOp .Not a pos) (gNot ga) := by
  obtain ⟨ta, pa, sa⟩ := ha
  refine ⟨tNot ta, fun X is => pt_not (pa X is), fun fx Z H ρ σ ex w rr e x Q k => ?_⟩
  show ta σ H fun c H1 => Q (!c) H1
  refine st_run sa w e x fun kb ρ1 Z1 H1 e1 m1 x1 => ?_
  cases e1
  exact k _ _ rfl Z1 H1 m1
/-- .. as values -/
def fAnd (fa fb : F D) : F D := (fT fa).bind fun k => if k then fb else F.ret (.bl false)
def fOr (fa fb : F D) : F D := (fT fa).bind fun k => if k then F.ret (.bl true) else fb
def fNot (fa : F D) : F D := (fT fa).bind fun k => F.ret (.bl (!k))
theorem fT_bind {h : Bool → F β} {r : R β} (e : (fT fa).bind h ρ = some r) : fa.bind (fun d => (F.of (bl? d)).bind h) ρ = some r := by
  unfold fT F.bind at e
  unfold F.bind
  cases q : fa ρ with
  | none => rw [q] at e; simp at e
  | some r1 =>
    rw [q] at e
    cases r1 with
    | ok d ρ' => exact e
    | ex x ρ' => exact e
theorem se_one {op : PySem.BoolOp} (h : SE g a fa) : SE g (.BoolOp op [a] pos) fa := by
  obtain ⟨t, p, s⟩ := h
  exact ⟨t, fun X is => pe_one (p X is), s⟩
theorem se_and (ha : SE g a fa) (hb : SE g (.BoolOp .And (b :: rest) pos) fb) : SE g (.BoolOp .And (a :: b :: rest) pos) (fAnd fa fb) := by
  obtain ⟨ta, pa, sa⟩ := ha
  obtain ⟨tb, pb, sb⟩ := hb
  refine ⟨tAndV ta tb, fun X is => pe_and (pa X is) (pb X is), fun fx Z H ρ σ ex w rr e x Q k => ?_⟩
  show ta σ H fun x H1 => ∃ c, x = .bl c ∧ if c = true then tb σ H1 Q else Q (.bl false) H1
  refine se_run sa w (fT_bind e) x fun d ρ1 v Z1 H1 e1 m1 r1 x1 => ?_
  rcases bind_some e1 with ⟨kb, ρ3, e3, e4⟩ | ⟨xx, ρ3, e3, _⟩
  · obtain ⟨_, h1, h2⟩ := of_some e3
    cases h2
    refine ⟨kb, r1.bl? h1, ?_⟩
    cases kb with
    | true =>
      rw [if_pos rfl] at e4 ⊢
      exact sb fx Z1 H1 ρ1 σ ex m1.wd _ e4 x1 Q fun d' ρ2 h v' Z2 H2 m2 => k d' ρ2 h v' Z2 H2 (m1.trans m2)
    | false =>
      rw [if_neg Bool.false_ne_true] at e4 ⊢
      cases e4
      exact k _ _ rfl _ Z1 H1 m1 (.bl false)
  · obtain ⟨_, _, z⟩ := of_some e3
    cases z
theorem se_or (ha : SE g a fa) (hb : SE g (.BoolOp .Or (b :: rest) pos) fb) : SE g (.BoolOp .Or (a :: b :: rest) pos) (fOr fa fb) := by
  obtain ⟨ta, pa, sa⟩ := ha
  obtain ⟨tb, pb, sb⟩ := hb
  refine ⟨tOrV ta tb, fun X is => pe_or (pa X is) (pb X is), fun fx Z H ρ σ ex w rr e x Q k => ?_⟩
  show ta σ H fun x H1 => ∃ c, x = .bl c ∧ if c = true then Q (.bl true) H1 else tb σ H1 Q
  refine se_run sa w (fT_bind e) x fun d ρ1 v Z1 H1 e1 m1 r1 x1 => ?_
  rcases bind_some e1 with ⟨kb, ρ3, e3, e4⟩ | ⟨xx, ρ3, e3, _⟩
  · obtain ⟨_, h1, h2⟩ := of_some e3
    cases h2
    refine ⟨kb, r1.bl? h1, ?_⟩
    cases kb with
    | true =>
      rw [if_pos rfl] at e4 ⊢
      cases e4
      exact k _ _ rfl _ Z1 H1 m1 (.bl true)
    | false =>
      rw [if_neg Bool.false_ne_true] at e4 ⊢
      exact sb fx Z1 H1 ρ1 σ ex m1.wd _ e4 x1 Q fun d' ρ2 h v' Z2 H2 m2 => k d' ρ2 h v' Z2 H2 (m1.trans m2)
  · obtain ⟨_, _, z⟩ := of_some e3
    cases z
theorem se_not (ha : SE g a fa) : SE g (.UnaryOp .Not a pos) (fNot fa) := by
  obtain ⟨ta, pa, sa⟩ := ha
  refine ⟨tNotV ta, fun X is => pe_not (pa X is), fun fx Z H ρ σ ex w rr e x Q k => ?_⟩
  show ta σ H fun x H1 => ∃ c, x = .bl c ∧ Q (.bl (!c)) H1
  refine se_run sa w (fT_bind e) x fun d ρ1 v Z1 H1 e1 m1 r1 x1 => ?_
  rcases bind_some e1 with ⟨kb, ρ3, e3, e4⟩ | ⟨xx, ρ3, e3, _⟩
  · obtain ⟨_, h1, h2⟩ := of_some e3
    cases h2
    cases e4
    exact ⟨kb, r1.bl? h1, k _ _ rfl _ Z1 H1 m1 (.bl (!kb))⟩
  · obtain ⟨_, _, z⟩ := of_some e3
    cases z
/-- a if t else b -/
def fIf (gc : F Bool) (fa fb : F α) : F α := gc.bind fun k => if k then fa else fb
theorem se_if {gc : F Bool} (hc : ST g c gc) (ha : SE g a fa) (hb : SE g b fb) : SE g (.IfExp c a b pos) (fIf gc fa fb) := by
  obtain ⟨tc, pc, sc⟩ := hc
  obtain ⟨ta, pa, sa⟩ := ha
  obtain ⟨tb, pb, sb⟩ := hb
  refine ⟨tIf tc ta tb, fun X is => pe_ifExp (pc X is) (pa X is) (pb X is), fun fx Z H ρ σ ex w rr e x Q k => ?_⟩
  show tc σ H fun c H1 => if c = true then ta σ H1 Q else tb σ H1 Q
  refine st_run sc w e x fun kb ρ1 Z1 H1 e1 m1 x1 => ?_
  cases kb with
  | true =>
    rw [if_pos rfl] at e1 ⊢
    exact sa fx Z1 H1 ρ1 σ ex m1.wd _ e1 x1 Q fun d' ρ2 h v' Z2 H2 m2 => k d' ρ2 h v' Z2 H2 (m1.trans m2)
  | false =>
    rw [if_neg Bool.false_ne_true] at e1 ⊢
    exact sb fx Z1 H1 ρ1 σ ex m1.wd _ e1 x1 Q fun d' ρ2 h v' Z2 H2 m2 => k d' ρ2 h v' Z2 H2 (m1.trans m2)
theorem sw_if {gc : F Bool} {fa fb : F W} (hc : ST g c gc) (ha : SW g a fa) (hb : SW g b fb) : SW g (.IfExp c a b pos) (fIf gc fa fb) := by
  obtain ⟨tc, pc, sc⟩ := hc
  obtain ⟨ta, pa, sa⟩ := ha
  obtain ⟨tb, pb, sb⟩ := hb
  refine ⟨tIf tc ta tb, fun X is => pe_ifExp (pc X is) (pa X is) (pb X is), fun fx Z H ρ σ ex w rr e x Q k => ?_⟩
  show tc σ H fun c H1 => if c = true then ta σ H1 Q else tb σ H1 Q
  refine st_run sc w e x fun kb ρ1 Z1 H1 e1 m1 x1 => ?_
  cases kb with
  | true =>
    rw [if_pos rfl] at e1 ⊢
    exact sa fx Z1 H1 ρ1 σ ex m1.wd _ e1 x1 Q fun d' ρ2 h v' Z2 H2 fp z2 w2 f2 => k d' ρ2 h v' Z2 H2 fp (m1.z.trans z2) w2 fun a ha => (f2 a ha).trans (m1.fr a ha)
  | false =>
    rw [if_neg Bool.false_ne_true] at e1 ⊢
    exact sb fx Z1 H1 ρ1 σ ex m1.wd _ e1 x1 Q fun d' ρ2 h v' Z2 H2 fp z2 w2 f2 => k d' ρ2 h v' Z2 H2 fp (m1.z.trans z2) w2 fun a ha => (f2 a ha).trans (m1.fr a ha)

/-! ### slices -/
def int? : D → Option Int
  | .int i => some i
  | _ => none
def oNo : F (Option Int) := F.ret none
def oPart (f : F D) : F (Option Int) := f.bind fun d => F.of ((int? d).map some)
theorem so_no : SO g none oNo := ⟨tNoPart, fun _ _ => po_none, fun fx Z H ρ σ ex w r e x Q k => by cases e; exact k none ρ rfl Z H (.refl w)⟩
theorem so_part (h : SE g e fa) : SO g (some e) (oPart fa) := by
  obtain ⟨t, p, s⟩ := h
  refine ⟨tPart t, fun X is => po_some (p X is), fun fx Z H ρ σ ex w r e x Q k => ?_⟩
  show t σ H fun x H1 => ∃ i, x = .int i ∧ Q (some i) H1
  refine se_run s w e x fun d ρ1 v Z1 H1 e1 m1 r1 x1 => ?_
  obtain ⟨o, h1, h2⟩ := of_some e1
  cases r1 with
  | int i => cases h1; exact ⟨i, rfl, k _ ρ1 h2 Z1 H1 m1⟩
  | _ => simp [int?] at h1
variable {lo hi : Option Expr} {fl fh : F (Option Int)} {p2 : Pos}
def fSlT (fa : F D) (fl fh : F (Option Int)) : F D := fa.bind fun d => fl.bind fun l => fh.bind fun h => F.of (oSlT d l h)
def fSlL (fa : F D) (fl fh : F (Option Int)) : F W := fa.bind fun d => fl.bind fun l => fh.bind fun h => F.of ((oSlL d l h).map .ls)
theorem se_slT (ha : SE g a fa) (hl : SO g lo fl) (hh : SO g hi fh) : SE g (.Subscript a (.Slice lo hi none p2) pos) (fSlT fa fl fh) := by
  obtain ⟨ta, pa, sa⟩ := ha
  obtain ⟨tl, pl, sl⟩ := hl
  obtain ⟨th, ph, sh⟩ := hh
  refine ⟨tSl (rSlA g.K) ta tl th, fun X is => pe_slice (by rw [← is.K]; exact sl_tupA) (pa X is) (pl X is) (ph X is), fun fx Z H ρ σ ex w rr e x Q k => ?_⟩
  show ta σ H fun x H1 => tl σ H1 fun l H2 => th σ H2 fun u H3 => rSlA g.K x l u H3 Q
  refine se_run sa w e x fun dx ρ1 v Z1 H1 e1 m1 r1 x1 => ?_
  refine so_run sl m1.wd e1 x1 fun l ρ2 Z2 H2 e2 m2 x2 => ?_
  refine so_run sh m2.wd e2 x2 fun h ρ3 Z3 H3 e3 m3 x3 => ?_
  obtain ⟨d', h1, h2⟩ := of_some e3
  have m := (m1.trans m2).trans m3
  have r3 := r1.mono (m2.z.trans m3.z)
  cases r3 with
  | tup hx rx =>
    cases h1
    refine ⟨_, _, rfl, .of (m3.zh _ _ hx), fun hw => ?_, fun hw p hp => ?_⟩
    · rw [rx.length] at hw
      rw [cutD_whole hw] at h2
      exact k _ ρ3 h2 _ Z3 H3 m (.tup hx rx)
    · exact FinL.tup m3.zh (fun v' Z4 H4 g4 r4 => k _ ρ3 h2 v' Z4 H4 (m.gr g4) r4) hp (rx.cut l h)
  | _ => simp [oSlT] at h1
theorem sw_slL (ha : SE g a fa) (hl : SO g lo fl) (hh : SO g hi fh) : SW g (.Subscript a (.Slice lo hi none p2) pos) (fSlL fa fl fh) := by
  obtain ⟨ta, pa, sa⟩ := ha
  obtain ⟨tl, pl, sl⟩ := hl
  obtain ⟨th, ph, sh⟩ := hh
  refine ⟨tSl (rSlL g.K) ta tl th, fun X is => pe_slice (by rw [← is.K]; exact sl_list) (pa X is) (pl X is) (ph X is), fun fx Z H ρ σ ex w rr e x Q k => ?_⟩
  show ta σ H fun x H1 => tl σ H1 fun l H2 => th σ H2 fun u H3 => rSlL g.K x l u H3 Q
  refine se_run sa w e x fun dx ρ1 v Z1 H1 e1 m1 r1 x1 => ?_
  refine so_run sl m1.wd e1 x1 fun l ρ2 Z2 H2 e2 m2 x2 => ?_
  refine so_run sh m2.wd e2 x2 fun h ρ3 Z3 H3 e3 m3 x3 => ?_
  obtain ⟨d', h1, h2⟩ := of_some e3
  have m := (m1.trans m2).trans m3
  cases q : sqL? dx with
  | none => simp [oSlL, q] at h1
  | some xs =>
    simp only [oSlL, q, Option.map_some, Option.some.injEq] at h1
    subst h1
    obtain ⟨a', vs, rfl, hs, rs⟩ := (r1.mono (m2.z.trans m3.z)).sqL m3.zh q
    exact ⟨a', vs, rfl, hs, fun p hp => k.list h2 m p _ hp (rs.cut l h)⟩
/-- xs[::-1] of a list -/
def fRevL (fa : F D) : F W := fa.bind fun d => F.of ((sqL? d).map fun xs => .ls xs.reverse)
theorem sw_revL {kk : Nat} {p1 q2 p3 : Pos} (ha : SE g a fa) : SW g (.Subscript a (.Slice none none (some (.UnaryOp .USub (.Constant (.int 1) kk p1) q2)) p3) pos) (fRevL fa) := by
  obtain ⟨ta, pa, sa⟩ := ha
  refine ⟨tRevL g.K ta, fun X is => by rw [← is.K]; exact pe_revL (pa X is), fun fx Z H ρ σ ex w rr e x Q k => ?_⟩
  show ta σ H fun x H1 => ∃ a xs, x = .ref a ∧ SqL g.K H1 a xs ∧ ∀ p, H1 p = none → Q (.ref p) (upd H1 p (.lst xs.reverse))
  refine se_run sa w e x fun dx ρ1 v Z1 H1 e1 m1 r1 x1 => ?_
  obtain ⟨d', h1, h2⟩ := of_some e1
  cases q : sqL? dx with
  | none => rw [q] at h1; cases h1
  | some xs =>
    rw [q] at h1
    cases h1
    obtain ⟨a', vs, rfl, hs, rs⟩ := r1.sqL m1.zh q
    exact ⟨a', vs, rfl, hs, fun p hp => k.list h2 m1 p _ hp rs.rev⟩

/-! ### displays -/
def fTup (fs : F (List D)) : F D := fs.bind fun ds => F.of (if ds.length ≤ sizeLine then some (.tup ds) else none)
def fLst (fs : F (List D)) : F W := fs.bind fun ds => F.of (if ds.length ≤ sizeLine then some (.ls ds) else none)
theorem se_tup {x1} (h : SA g es fs) : SE g (.Tuple es x1 pos) (fTup fs) := by
  obtain ⟨t, p, s⟩ := h
  refine ⟨tTup t, fun X is => pe_tup (p X is), fun fx Z H ρ σ ex w rr e x Q k => ?_⟩
  show t σ H fun xs H1 => xs.length ≤ sizeLine ∧ ∀ p, H1 p = none → Q (.ref p) (upd H1 p (.tup xs))
  refine sa_run s w e x fun ds ρ1 vs Z1 H1 e1 m1 r1 x1 => ?_
  obtain ⟨d', h1, h2⟩ := of_some e1
  split at h1
  · rename_i hz
    cases h1
    exact ⟨by rw [r1.length]; exact hz, fun p hp => FinL.tup m1.zh (fun v' Z4 H4 g4 r4 => k _ ρ1 h2 v' Z4 H4 (m1.gr g4) r4) hp r1⟩
  · cases h1
theorem sw_lst (h : SA g es fs) : SW g (.List es pos) (fLst fs) := by
  obtain ⟨t, p, s⟩ := h
  refine ⟨tLst t, fun X is => pe_lst (p X is), fun fx Z H ρ σ ex w rr e x Q k => ?_⟩
  show t σ H fun xs H1 => xs.length ≤ sizeLine ∧ ∀ p, H1 p = none → Q (.ref p) (upd H1 p (.lst xs))
  refine sa_run s w e x fun ds ρ1 vs Z1 H1 e1 m1 r1 x1 => ?_
  obtain ⟨d', h1, h2⟩ := of_some e1
  split at h1
  · rename_i hz
    cases h1
    exact ⟨by rw [r1.length]; exact hz, fun p hp => k.list h2 m1 p _ hp r1⟩
  · cases h1

/-! ### calls of built-ins -/
variable {r : List V → Hp → VK → Prop} {x : Str} {p : Pos}
def fCall (o : List D → Option D) (fs : F (List D)) : F D := fs.bind fun ds => F.of (o ds)
def fCallL (o : List D → Option (List D)) (fs : F (List D)) : F W := fs.bind fun ds => F.of ((o ds).map .ls)
theorem sem_call {t : TA} {o : List D → Option D} (hr : CaD g.K r o) (s : SemA g t fs) : SemE g (tCB r t) (fCall o fs) := fun fx Z H ρ σ ex w rr e x Q k => by
  show t σ H fun vs H1 => r vs H1 Q
  refine sa_run s w e x fun ds ρ1 vs Z1 H1 e1 m1 r1 x1 => ?_
  obtain ⟨d', h1, h2⟩ := of_some e1
  exact hr Z1 H1 vs ds d' m1.zh r1 h1 Q fun v' Z2 H2 g2 r2 => k d' ρ1 h2 v' Z2 H2 (m1.gr g2) r2
theorem sem_callL {t : TA} {o : List D → Option (List D)} (hr : CaW g.K r o) (s : SemA g t fs) : SemW g (tCB r t) (fCallL o fs) := fun fx Z H ρ σ ex w rr e x Q k => by
  show t σ H fun vs H1 => r vs H1 Q
  refine sa_run s w e x fun ds ρ1 vs Z1 H1 e1 m1 r1 x1 => ?_
  obtain ⟨d', h1, h2⟩ := of_some e1
  cases q : o ds with
  | none => rw [q] at h1; cases h1
  | some xs =>
    rw [q] at h1
    cases h1
    exact hr Z1 H1 vs ds xs m1.zh r1 q Q (k.list h2 m1)
theorem se_callB {id : String} {o : List D → Option D} (hc : ∀ X, Is g X → CallR X (.builtin id) r) (hr : CaD g.K r o) (hg : g.sc.names.lookup x = some .globalImplicit) (hm : g.mg x = none) (hv : bootBuiltins x = some (.builtin id)) (ha : SA g (e :: es) fs)
    (hn : x ≠ "__name__" := by decide) (hdb : (x == ("__debug__" : Str)) = false := by decide) (he : ∀ env, starEach (e :: es) env = (false, eval e env) :: starEach es env := by intro _; rfl) (hpl : ∀ env, (backTo pos (starEach es env)).any (·.1) = false := by intro _; rfl) :
    SE g (.Call (.Name x p) (e :: es) [] pos) (fCall o fs) := by
  obtain ⟨t, pt, s⟩ := ha
  exact ⟨tCB r t, fun X is => pe_callB (hc X is) (is.gl hg) (by rw [is.mg]; exact hm) hv (pt X is) hn hdb (he _) (hpl _), sem_call hr s⟩
theorem se_callTy {T : String} {o : List D → Option D} (hc : ∀ X, Is g X → CallR X (.type T) r) (hr : CaD g.K r o) (hg : g.sc.names.lookup x = some .globalImplicit) (hm : g.mg x = none) (hv : bootBuiltins x = some (.type T)) (ha : SA g (e :: es) fs)
    (hn : x ≠ "__name__" := by decide) (hdb : (x == ("__debug__" : Str)) = false := by decide) (he : ∀ env, starEach (e :: es) env = (false, eval e env) :: starEach es env := by intro _; rfl) (hpl : ∀ env, (backTo pos (starEach es env)).any (·.1) = false := by intro _; rfl) :
    SE g (.Call (.Name x p) (e :: es) [] pos) (fCall o fs) := by
  obtain ⟨t, pt, s⟩ := ha
  exact ⟨tCB r t, fun X is => pe_callTy (hc X is) (is.gl hg) (by rw [is.mg]; exact hm) hv (pt X is) hn hdb (he _) (hpl _), sem_call hr s⟩
theorem sw_callTy {T : String} {o : List D → Option (List D)} (hc : ∀ X, Is g X → CallR X (.type T) r) (hr : CaW g.K r o) (hg : g.sc.names.lookup x = some .globalImplicit) (hm : g.mg x = none) (hv : bootBuiltins x = some (.type T)) (ha : SA g (e :: es) fs)
    (hn : x ≠ "__name__" := by decide) (hdb : (x == ("__debug__" : Str)) = false := by decide) (he : ∀ env, starEach (e :: es) env = (false, eval e env) :: starEach es env := by intro _; rfl) (hpl : ∀ env, (backTo pos (starEach es env)).any (·.1) = false := by intro _; rfl) :
    SW g (.Call (.Name x p) (e :: es) [] pos) (fCallL o fs) := by
  obtain ⟨t, pt, s⟩ := ha
  exact ⟨tCB r t, fun X is => pe_callTy (hc X is) (is.gl hg) (by rw [is.mg]; exact hm) hv (pt X is) hn hdb (he _) (hpl _), sem_callL hr s⟩

/-! ### a field of data -/
def oFld (c f : Str) : D → Option D
  | .obj c' fs => if c' = c then fs.lookup f else none
  | _ => none
def fFld (c f : Str) (fa : F D) : F D := fa.bind fun d => F.of (oFld c f d)
theorem lookup_reps {K : PySem.W.Frag} {f : Str} : ∀ {fs : List (Str × V)} {ds : List (Str × D)} {d : D}, fs.map (·.1) = ds.map (·.1) → Reps K Z (fs.map (·.2)) (ds.map (·.2)) → ds.lookup f = some d → ∃ v, fs.lookup f = some v ∧ Rep K Z v d
  | [], [], _, _, _, h => by simp at h
  | [], _ :: _, _, h, _, _ => by simp at h
  | _ :: _, [], _, h, _, _ => by simp at h
  | (k, v) :: fs, (k', d') :: ds, d, hk, hr, h => by
    simp only [List.map_cons, List.cons.injEq] at hk hr
    obtain ⟨rfl, hk⟩ := hk
    cases hr with
    | cons r1 r2 =>
      rw [List.lookup_cons] at h ⊢
      cases q : (f == k) with
      | true => rw [q] at h; cases h; exact ⟨v, rfl, r1⟩
      | false => rw [q] at h; exact lookup_reps hk r2 h
theorem se_fld {cn f : Str} (hC : Cls g.K (He.ga g.K cn)) (hn : NoAttr g.K (He.ga g.K cn) f) (ha : SE g e fa) (hb : ∀ env, attributeBase e f env (eval e env) = eval e env := by intro _; rfl) : SE g (.Attribute e f pos) (fFld cn f fa) := by
  obtain ⟨ta, pa, sa⟩ := ha
  refine ⟨tFld g.K ta f, fun X is => by rw [← is.K]; exact pe_fld (pa X is) (hb _), fun fx Z H ρ σ ex w rr e x Q k => ?_⟩
  show ta σ H fun x H1 => ∃ a C dx fs v, x = .ref a ∧ H1 a = some (.ins C dx fs) ∧ Cls g.K C ∧ NoAttr g.K C f ∧ fs.lookup f = some v ∧ Q v H1
  refine se_run sa w e x fun dx ρ1 v Z1 H1 e1 m1 r1 x1 => ?_
  obtain ⟨d', h1, h2⟩ := of_some e1
  cases r1 with
  | obj ho hk hr =>
    simp only [oFld] at h1
    split at h1
    · rename_i hc
      subst hc
      obtain ⟨v, q1, q2⟩ := lookup_reps hk hr h1
      exact ⟨_, _, _, _, v, rfl, m1.zh _ _ ho, hC, hn, q1, k d' ρ1 h2 v Z1 H1 m1 q2⟩
    · cases h1
  | _ => simp [oFld] at h1
end
end FL
set_option Elab.async false
set_option linter.all false
set_option maxRecDepth 100000
set_option maxHeartbeats 1000000
/-! FL6: a slot's own thing changed; calls of defs; what is walked; comprehensions -/
namespace FL
open PySem PySem.Spec PyProof.Rows L2

/-- one thing (owned at f0) is changed, a new one (owned at fx) may be there -/
structure Ch (Z H : Hp) (f0 : List Addr) (Z' H' : Hp) (f' fn : List Addr) : Prop where
  z : Zle Z Z'
  zh : Zle Z' H'
  kp : ∀ a o, H a = some o → a ∉ f0 → H' a = some o
  nd : (f' ++ fn).Nodup
  zn : ∀ a ∈ f' ++ fn, Z' a = none
  th : ∀ a ∈ f' ++ fn, H' a ≠ none
  nt : ∀ a ∈ f' ++ fn, ∀ u, NOwn u → H' a ≠ some u
  ow : ∀ a ∈ f', H a = none ∨ a ∈ f0
  nx : ∀ a ∈ fn, H a = none
  nw : ∀ a o, Z' a = some o → Z a = some o ∨ H a = none ∨ NDat o
  dm : ∀ a, H a ≠ none → H' a ≠ none

section
variable {K : PySem.W.Frag} {fx : Fx} {Z Z' H H' : Hp} {ps : List (Option V)} {ρ : Rho} {σ : L2.St} {fp ex : List Addr}
theorem Slots.split : ∀ {ps : List (Option V)} {ρ : Rho} {σ : L2.St} {fp : List Addr} {i : Nat} {io : Bool} {w : W}, Slots K fx Z H ps ρ σ fp → ρ[i]? = some (.so io w) →
    ∃ v l g r, σ[i]? = some (some v) ∧ RepW K Z H v w g ∧ fp = l ++ g ++ r ∧ (∀ a ∈ g, fx.H0 a = none ∨ (io = true ∧ a ∈ fx.F0)) ∧ (io = true → ps[i]? = some (some v)) ∧
      ∀ Z' H' w' f', Zle Z Z' → (∀ a ∈ l ++ r, H' a = H a) → RepW K Z' H' v w' f' → (∀ a ∈ f', fx.H0 a = none ∨ (io = true ∧ a ∈ fx.F0)) → Slots K fx Z' H' ps (ρ.set i (.so io w')) σ (l ++ f' ++ r)
  | _, _, _, _, i, _, _, .nil, e => by simp at e
  | _, _, _, _, 0, _, _, .no r, e => by simp at e
  | _, _, _, _, i + 1, io, w, .no r, e => by
    obtain ⟨v, l, g, r', h1, h2, h3, h4, h5, h6⟩ := Slots.split (i := i) (io := io) (w := w) r (by simpa using e)
    exact ⟨v, l, g, r', by simpa using h1, h2, h3, h4, fun q => by simpa using h5 q, fun Z' H' w' f' z k rp o => .no (h6 Z' H' w' f' z k rp o)⟩
  | _, _, _, _, 0, _, _, .tab t r, e => by simp at e
  | _, _, _, _, i + 1, io, w, .tab t r, e => by
    obtain ⟨v, l, g, r', h1, h2, h3, h4, h5, h6⟩ := Slots.split (i := i) (io := io) (w := w) r (by simpa using e)
    exact ⟨v, l, g, r', by simpa using h1, h2, h3, h4, fun q => by simpa using h5 q, fun Z' H' w' f' z k rp o => .tab t (h6 Z' H' w' f' z k rp o)⟩
  | _, _, _, _, 0, _, _, .so (f := f0) (fp := fp0) h o p r, e => by
    simp at e
    obtain ⟨e1, e2⟩ := e
    subst e1 e2
    exact ⟨_, [], f0, fp0, rfl, h, rfl, o, fun q => by rw [p q]; rfl, fun Z' H' w' f' z k rp o' => .so rp o' p (r.keep z fun a ha => k a ha)⟩
  | _, _, _, _, i + 1, io, w, .so (f := f0) h o p r, e => by
    obtain ⟨v, l, g, r', h1, h2, h3, h4, h5, h6⟩ := Slots.split (i := i) (io := io) (w := w) r (by simpa using e)
    refine ⟨v, f0 ++ l, g, r', by simpa using h1, h2, by rw [h3]; simp, h4, fun q => by simpa using h5 q, fun Z' H' w' f' z k rp o' => ?_⟩
    have := Slots.so (h.keep z fun a ha => k a (by simp only [List.mem_append]; exact .inl (.inl ha))) o p (h6 Z' H' w' f' z (fun a ha => k a (by simp only [List.mem_append] at ha ⊢; grind)) rp o')
    simpa [List.append_assoc] using this
theorem Wd.focus {i : Nat} {io : Bool} {w : W} (x : Wd K fx Z H ρ σ ex) (e : ρ[i]? = some (.so io w)) :
    ∃ v f0, σ[i]? = some (some v) ∧ RepW K Z H v w f0 ∧ f0.Nodup ∧ (∀ a ∈ f0, Z a = none) ∧ (∀ a ∈ f0, a ∉ ex) ∧ (io = true → fx.ps[i]? = some (some v)) ∧
      ∀ Z' H' w' f' fn, Ch Z H f0 Z' H' f' fn → RepW K Z' H' v w' f' → Wd K fx Z' H' (ρ.set i (.so io w')) σ (fn ++ ex) ∧ ∀ a ∈ ex, H' a = H a := by
  obtain ⟨fp, h⟩ := x
  obtain ⟨v, l, g, r, h1, h2, h3, h4, h5, h6⟩ := h.sl.split e
  have nd := h.nd
  rw [h3] at nd
  have mg : ∀ a ∈ g, a ∈ fp ++ ex := fun a ha => by rw [h3]; simp only [List.mem_append]; exact .inl (.inl (.inr ha))
  have dis : ∀ a ∈ g, a ∉ l ++ r ∧ a ∉ ex := fun a ha => by
    simp only [List.nodup_append, List.mem_append] at nd ⊢
    grind
  refine ⟨v, g, h1, h2, ?_, fun a ha => h.zn a (mg a ha), fun a ha => (dis a ha).2, h5, fun Z' H' w' f' fn c rp => ?_⟩
  · simp only [List.nodup_append] at nd
    exact nd.1.1.2.1
  have ne : ∀ a, a ∈ l ++ r ∨ a ∈ ex → H' a = H a := fun a ha => by
    have hm : a ∈ fp ++ ex := by
      rw [h3]
      simp only [List.mem_append] at ha ⊢
      grind
    have hg : a ∉ g := fun z => by
      rcases ha with ha | ha
      · exact (dis a z).1 ha
      · exact (dis a z).2 ha
    cases q : H a with
    | none => exact absurd q (h.th a hm)
    | some o => exact c.kp a o q hg
  have old : ∀ a, a ∈ l ++ r ∨ a ∈ ex → a ∉ f' ∧ a ∉ fn := fun a ha => by
    have hm : a ∈ fp ++ ex := by
      rw [h3]
      simp only [List.mem_append] at ha ⊢
      grind
    refine ⟨fun z => ?_, fun z => h.th a hm (c.nx a z)⟩
    rcases c.ow a z with q | q
    · exact h.th a hm q
    · rcases ha with ha | ha
      · exact (dis a q).1 ha
      · exact (dis a q).2 ha
  refine ⟨⟨l ++ f' ++ r, ⟨h6 Z' H' w' f' c.z (fun a ha => ne a (.inl ha)) rp fun a ha => ?_, ?_, ?_, ?_, ?_, ?_, c.zh, ?_, ?_, ?_, ?_⟩⟩, fun a ha => ne a (.inr ha)⟩
  · rcases c.ow a ha with q | q
    · refine .inl ?_
      cases z : fx.H0 a with
      | none => rfl
      | some u => exact absurd q (h.dm a (by rw [z]; exact fun y => nomatch y))
    · exact h4 a q
  · have n2 := c.nd
    simp only [List.nodup_append, List.mem_append] at nd n2 ⊢
    simp only [List.mem_append] at old
    grind
  · intro a ha
    by_cases hf : a ∈ f' ++ fn
    · exact c.zn a hf
    · have hm : a ∈ l ++ r ∨ a ∈ ex := by
        simp only [List.mem_append] at ha hf ⊢
        grind
      have hm2 : a ∈ fp ++ ex := by
        rw [h3]
        simp only [List.mem_append] at hm ⊢
        grind
      cases q : Z' a with
      | none => rfl
      | some o =>
        rcases c.nw a o q with y | y | nd
        · rw [h.zn a hm2] at y; cases y
        · exact absurd y (h.th a hm2)
        · have := c.zh a _ q
          rw [ne a hm] at this
          exact absurd this (h.nt a hm2 _ nd.own)
  · intro a ha
    by_cases hf : a ∈ f' ++ fn
    · exact c.th a hf
    · have hm : a ∈ l ++ r ∨ a ∈ ex := by
        simp only [List.mem_append] at ha hf ⊢
        grind
      have hm2 : a ∈ fp ++ ex := by
        rw [h3]
        simp only [List.mem_append] at hm ⊢
        grind
      rw [ne a hm]
      exact h.th a hm2
  · intro a ha vs hv
    by_cases hf : a ∈ f' ++ fn
    · exact c.nt a hf vs hv
    · have hm : a ∈ l ++ r ∨ a ∈ ex := by
        simp only [List.mem_append] at ha hf ⊢
        grind
      have hm2 : a ∈ fp ++ ex := by
        rw [h3]
        simp only [List.mem_append] at hm ⊢
        grind
      rw [ne a hm]
      exact h.nt a hm2 vs hv
  · intro a ha
    rcases List.mem_append.mp ha with ha | ha
    · cases z : fx.H0 a with
      | none => rfl
      | some u => exact absurd (c.nx a ha) (h.dm a (by rw [z]; exact fun y => nomatch y))
    · exact h.xn a ha
  · intro a o q n
    have hH := h.kp a o q n
    refine c.kp a o hH fun hg => ?_
    rcases h4 a hg with y | y
    · rw [q] at y; cases y
    · exact n y.2
  · intro a o q
    rcases c.nw a o q with y | y | y
    · exact h.zf a o y
    · refine .inr (.inl ?_)
      cases z : fx.H0 a with
      | none => rfl
      | some u => exact absurd y (h.dm a (by rw [z]; exact fun y => nomatch y))
    · exact .inr (.inr y)
  · exact fun a q => c.dm a (h.dm a q)
  · intro p hp
    have nown : ∀ a u, H a = some u → NOwn u → a ∉ g := fun a u e hu hg => h.nt a (by rw [h3]; simp only [List.mem_append]; grind) u hu e
    obtain ⟨ps, t1, t2, t3⟩ := h.tb p hp
    refine ⟨ps, c.kp _ _ t1 (nown _ _ t1 (.tbl ps)), t2, fun pos cv hc => ?_⟩
    obtain ⟨d, e1, e2⟩ := t3 pos cv hc
    exact ⟨d, e1, c.kp _ _ e2 (nown _ _ e2 (.code _ _))⟩
/-- nothing that is owned is changed -/
theorem Ch.gr {f : List Addr} (c : Ch Z H [] Z' H' f fp) : Gr Z H Z' H' := ⟨c.z, fun a o e => c.kp a o e (by simp), c.zh, c.nw⟩
theorem Gr.ch (g : Gr Z H Z' H') : Ch Z H [] Z' H' [] [] := ⟨g.z, g.zh, fun a o e _ => g.h a o e, .nil, fun _ h => by simp at h, fun _ h => by simp at h, fun _ h => by simp at h, fun _ h => by simp at h, fun _ h => by simp at h, g.nw, fun a n z => by
  cases q : H a with
  | none => exact n q
  | some o => rw [g.h a o q] at z; cases z⟩
theorem Wd.ch0 {fn : List Addr} (x : Wd K fx Z H ρ σ ex) (c : Ch Z H [] Z' H' [] fn) : Wd K fx Z' H' ρ σ (fn ++ ex) ∧ ∀ a ∈ ex, H' a = H a := by
  obtain ⟨fp, h⟩ := x
  have g := h.gr c.gr
  have ne : ∀ a ∈ fp ++ ex, H' a = H a := fun a ha => by
    cases q : H a with
    | none => exact absurd q (h.th a ha)
    | some o => exact c.kp a o q (by simp)
  have old : ∀ a ∈ fp ++ ex, a ∉ fn := fun a ha z => h.th a ha (c.nx a z)
  refine ⟨⟨fp, ⟨g.sl, ?_, ?_, ?_, ?_, ?_, g.zh, g.kp, g.zf, g.dm, g.tb⟩⟩, fun a ha => ne a (List.mem_append_right _ ha)⟩
  · have nd := h.nd
    have n2 := c.nd
    simp only [List.nodup_append, List.mem_append, List.nil_append] at nd n2 old ⊢
    grind
  · intro a ha
    by_cases hf : a ∈ fn
    · exact c.zn a (by simpa using hf)
    · exact g.zn a (by simp only [List.mem_append] at ha ⊢; grind)
  · intro a ha
    by_cases hf : a ∈ fn
    · exact c.th a (by simpa using hf)
    · exact g.th a (by simp only [List.mem_append] at ha ⊢; grind)
  · intro a ha vs hv
    by_cases hf : a ∈ fn
    · exact c.nt a (by simpa using hf) vs hv
    · exact g.nt a (by simp only [List.mem_append] at ha ⊢; grind) vs hv
  · intro a ha
    rcases List.mem_append.mp ha with ha | ha
    · cases z : fx.H0 a with
      | none => rfl
      | some u => exact absurd (c.nx a ha) (h.dm a (by rw [z]; exact fun y => nomatch y))
    · exact h.xn a ha
/-- the one object that a thing owns is changed -/
theorem Ch.upd1 {a : Addr} {o : HO} (z : Zle Z H) (ha : H a ≠ none) (hz : Z a = none) (ho : ∀ u, NOwn u → o ≠ u := by (rintro _ (⟨_, rfl⟩ | ⟨_, rfl⟩ | ⟨_, _, rfl⟩) z <;> cases z)) : Ch Z H [a] Z (upd H a o) [a] [] := by
  refine ⟨.refl _, fun b u e => ?_, fun b u e n => ?_, by simp, fun b hb => ?_, fun b hb => ?_, fun b hb vs hv => ?_, fun b hb => .inr (by simpa using hb), fun b hb => by simp at hb, fun b u e => .inl e, fun b n => ?_⟩
  · have : b ≠ a := fun q => by rw [q, hz] at e; cases e
    rw [upd_ne this]; exact z b u e
  · rw [upd_ne (by simpa using n)]; exact e
  · have e : b = a := by simpa using hb
    rw [e]; exact hz
  · have e : b = a := by simpa using hb
    rw [e, upd_same]; exact fun q => nomatch q
  · have e : b = a := by simpa using hb
    rw [e, upd_same]; exact fun q => ho vs hv (Option.some.inj q)
  · by_cases hb : b = a
    · rw [hb, upd_same]; exact fun q => nomatch q
    · rw [upd_ne hb]; exact n
end

/-! ### what a def promises -/
inductive RP where
  | ret (w : W) | exc (e : Ex)
inductive RI where
  | ret (w s : W) | exc (e : Ex) (s : W)
/-- a def of data alone -/
def spP (K : PySem.W.Frag) (Fn : List D → Option RP) : Sp := fun vs H Q E => ∃ Z ds r, Zle Z H ∧ Reps K Z vs ds ∧ Fn ds = some r ∧ match r with
  | .ret w => ∀ v Z' H' fp, Ch Z H [] Z' H' [] fp → RepW K Z' H' v w fp → Q v H'
  | .exc e => ∀ c d Z' H', Ch Z H [] Z' H' [] [] → ExR K Z' H' e c d → E c d H'
/-- a def that changes its first argument -/
def spI (K : PySem.W.Frag) (Fn : W → List D → Option RI) : Sp := fun vs H Q E => ∃ Z v0 vs' w0 f0 ds r, vs = v0 :: vs' ∧ Zle Z H ∧ RepW K Z H v0 w0 f0 ∧ f0.Nodup ∧ (∀ a ∈ f0, Z a = none) ∧ Reps K Z vs' ds ∧ Fn w0 ds = some r ∧ match r with
  | .ret w w0' => ∀ v Z' H' f' fn, Ch Z H f0 Z' H' f' fn → RepW K Z' H' v0 w0' f' → RepW K Z' H' v w fn → Q v H'
  | .exc e w0' => ∀ c d Z' H' f', Ch Z H f0 Z' H' f' [] → RepW K Z' H' v0 w0' f' → ExR K Z' H' e c d → E c d H'
/-- the def x of n parameters stands and keeps the promise sp -/
def Cal (g : Gm) (k : Nat) (x : Str) (n : Nat) (sp : Sp) : Prop := ∃ f fd ps, FnOk g.P g.w g.K g.mg g.base (L2.CX g.P g.w) k f fd ps sp ∧ g.mg x = some (.ref f) ∧ PySem.W.keepIn g.K (.ref f) = true ∧ Binds g.K fd ps [] ∧ ps.length = n
def fCallP (Fn : List D → Option RP) (fs : F (List D)) : F W := fs.bind fun ds ρ => match Fn ds with
  | some (.ret w) => some (.ok w ρ)
  | some (.exc e) => some (.ex e ρ)
  | none => none
def fCallI (i : Nat) (Fn : W → List D → Option RI) (fs : F (List D)) : F W := fun ρ => match ρ[i]? with
  | some (.so _ _) => (fs.bind fun ds ρ1 => match ρ1[i]? with
    | some (.so io w0) => (match Fn w0 ds with
      | some (.ret w s) => some (.ok w (ρ1.set i (.so io s)))
      | some (.exc e s) => some (.ex e (ρ1.set i (.so io s)))
      | none => none)
    | _ => none) ρ
  | _ => none
section
variable {g : Gm} {fx : Fx} {Z Z' H H' : Hp} {ρ ρ1 : Rho} {σ : L2.St} {ex : List Addr} {α β : Type}
variable {e a b c : Expr} {fa fb fc : F D} {pos p : Pos} {es : List Expr} {fs : F (List D)} {ga gb : F Bool} {rest : List Expr} {x : Str} {k n : Nat}
theorem Is.call {X : Cx} {sp : Sp} (is : Is g X) (h : Cal g k x n sp) (hk : k ≤ g.k) (hg : g.sc.names.lookup x = some .globalImplicit) {e : Expr} {es : List Expr} {t : TA} (ha : PA X (e :: es) t) (hdb : (x == ("__debug__" : Str)) = false := by decide)
    (he : ∀ env, starEach (e :: es) env = (false, eval e env) :: starEach es env) (hpl : ∀ env, (backTo pos (starEach es env)).any (·.1) = false) : PE X (.Call (.Name x p) (e :: es) [] pos) (tCall sp [] g.E t) := by
  obtain ⟨f, fd, ps, F, hm, hkp, hb, _⟩ := h
  have pass := is.pass
  obtain ⟨h1, h2, h3, h4, h5, _, _, _, _, hr, _⟩ := id is
  rw [← h1, ← h2, ← h3, ← h4, ← h5] at F
  rw [← h4] at hm
  rw [← h3] at hkp hb
  rw [← h1, ← h2] at pass
  exact pe_call F (hr.mono hk) (is.gl hg) hm hkp hb .nil pass ha hdb (he _) (hpl _)
theorem sw_call {Fn : List D → Option RP} (h : Cal g k x n (spP g.K Fn)) (hk : k ≤ g.k) (hg : g.sc.names.lookup x = some .globalImplicit) (ha : SA g (e :: es) fs) (hdb : (x == ("__debug__" : Str)) = false := by decide)
    (he : ∀ env, starEach (e :: es) env = (false, eval e env) :: starEach es env := by intro _; rfl) (hpl : ∀ env, (backTo pos (starEach es env)).any (·.1) = false := by intro _; rfl) : SW g (.Call (.Name x p) (e :: es) [] pos) (fCallP Fn fs) := by
  obtain ⟨t, pt, s⟩ := ha
  refine ⟨tCall (spP g.K Fn) [] g.E t, fun X is => is.call h hk hg (pt X is) hdb he hpl, fun fx Z H ρ σ ex w rr e x Q k => ?_⟩
  show t σ H fun vs H1 => spP g.K Fn (vs ++ []) H1 Q g.E
  refine sa_run s w e x fun ds ρ1 vs Z1 H1 e1 m1 r1 x1 => ?_
  rw [List.append_nil]
  split at e1
  · rename_i w' q
    cases e1
    refine ⟨Z1, ds, _, m1.zh, r1, q, fun v Z2 H2 fp c rw' => ?_⟩
    obtain ⟨w2, f2⟩ := m1.wd.ch0 c
    exact k _ ρ1 rfl v Z2 H2 fp (m1.z.trans c.z) w2 (fun a ha => (f2 a ha).trans (m1.fr a ha)) rw'
  · rename_i e' q
    cases e1
    refine ⟨Z1, ds, _, m1.zh, r1, q, fun c d Z2 H2 ch er => ?_⟩
    obtain ⟨w2, f2⟩ := m1.wd.ch0 ch
    exact x1 _ ρ1 rfl c d Z2 H2 ⟨ch.z, w2, f2⟩ er
  · cases e1
/-- x(slot i's thing, ..): it is changed there -/
theorem sw_callI {i : Nat} {y : Str} {py : Pos} {Fn : W → List D → Option RI} (h : Cal g k x n (spI g.K Fn)) (hk : k ≤ g.k) (hg : g.sc.names.lookup x = some .globalImplicit) (hN : g.N[i]? = some y) (hv : Vis g.sc y) (ha : SA g es fs) (hdb : (x == ("__debug__" : Str)) = false := by decide)
    (hd : (y == ("__debug__" : Str)) = false := by decide) (hcd : (y == ("__classdict__" : Str)) = false := by decide)
    (he : ∀ env, starEach (.Name y py :: es) env = (false, eval (.Name y py) env) :: starEach es env := by intro _; rfl) (hpl : ∀ env, (backTo pos (starEach es env)).any (·.1) = false := by intro _; rfl) : SW g (.Call (.Name x p) (.Name y py :: es) [] pos) (fCallI i Fn fs) := by
  obtain ⟨t, pt, s⟩ := ha
  refine ⟨tCall (spI g.K Fn) [] g.E (tCons (tVar i) t), fun X is => is.call h hk hg (pa_cons (pe_var (by rw [is.N]; exact hN) (is.vis hv) hd hcd) (pt X is) (he _)) hdb he hpl, fun fx Z H ρ σ ex w rr e x Q k => ?_⟩
  show ∃ v, σ[i]? = some (some v) ∧ t σ H fun vs H1 => spI g.K Fn ((v :: vs) ++ []) H1 Q g.E
  unfold fCallI at e
  split at e
  · rename_i io0 w00 q0
    obtain ⟨v0, _, h0, _⟩ := w.focus q0
    refine ⟨v0, h0, ?_⟩
    refine sa_run s w e x fun ds ρ1 vs Z1 H1 e1 m1 r1 x1 => ?_
    rw [List.append_nil]
    split at e1
    · rename_i io w0 q1
      obtain ⟨v, f0, g1, g2, g3, g4, _, _, g5⟩ := m1.wd.focus q1
      have ev : v = v0 := by
        rw [h0] at g1
        exact (Option.some.inj (Option.some.inj g1)).symm
      subst ev
      split at e1
      · rename_i w' s' q
        cases e1
        refine ⟨Z1, v, vs, w0, f0, ds, _, rfl, m1.zh, g2, g3, g4, r1, q, fun u Z2 H2 f' fn c rs rw' => ?_⟩
        obtain ⟨w2, f2⟩ := g5 Z2 H2 s' f' fn c rs
        exact k _ _ rfl u Z2 H2 fn (m1.z.trans c.z) w2 (fun a ha => (f2 a ha).trans (m1.fr a ha)) rw'
      · rename_i e' s' q
        cases e1
        refine ⟨Z1, v, vs, w0, f0, ds, _, rfl, m1.zh, g2, g3, g4, r1, q, fun cc d Z2 H2 f' c rs er => ?_⟩
        obtain ⟨w2, f2⟩ := g5 Z2 H2 s' f' [] c rs
        exact x1 _ _ rfl cc d Z2 H2 ⟨c.z, w2, f2⟩ er
      · cases e1
    · cases e1
  · cases e
end
end FL
set_option Elab.async false
set_option linter.all false
set_option maxRecDepth 100000
set_option maxHeartbeats 1000000
/-! FL7: what is walked, targets, comprehensions -/
namespace FL
open PySem PySem.Spec PyProof.Rows L2

/-- J yields ds, whatever comes to the data Z -/
structure Walk (K : PySem.W.Frag) (J : It) (Z : Hp) (ds : List D) : Prop where
  stop : ∀ i Z' H', Zle Z Z' → Zle Z' H' → i = ds.length → J.stop i H'
  go : ∀ i d, ds[i]? = some d → ∀ Z' H', Zle Z Z' → Zle Z' H' → J.go i H'
  yld : ∀ i d, ds[i]? = some d → ∀ Z' H' x H'', Zle Z Z' → Zle Z' H' → J.yld i H' x H'' → ∃ Z'', Gr Z' H' Z'' H'' ∧ Rep K Z'' x d
theorem Walk.mono {K : PySem.W.Frag} {J : It} {Z Z' : Hp} {ds : List D} (w : Walk K J Z ds) (z : Zle Z Z') : Walk K J Z' ds :=
  ⟨fun i Z2 H2 z2 => w.stop i Z2 H2 (z.trans z2), fun i d h Z2 H2 z2 => w.go i d h Z2 H2 (z.trans z2), fun i d h Z2 H2 x H3 z2 => w.yld i d h Z2 H2 x H3 (z.trans z2)⟩
def OkI (g : Gm) (fx : Fx) (Z H : Hp) (σ : L2.St) (ex : List Addr) (r : R (List D)) (Rr : It → Hp → Prop) : Prop := ∀ ds ρ', r = .ok ds ρ' → ∀ J Z' H', Mv g fx Z H ρ' σ ex Z' H' → Walk g.K J Z' ds → Rr J H'
abbrev SemI (g : Gm) (wi : TI) (f : F (List D)) : Prop := ∀ fx Z H ρ σ ex, Wd g.K fx Z H ρ σ ex → ∀ r, f ρ = some r → XC g fx Z H σ ex r → ∀ Rr, OkI g fx Z H σ ex r Rr → wi σ H Rr
def SI (g : Gm) (tg iter : Expr) (f : F (List D)) : Prop := ∃ wi : TI, (∀ X, Is g X → PI X tg iter wi) ∧ SemI g wi f
/-- a target: f puts the datum into the slots js -/
def SG (g : Gm) (tg : Expr) (f : D → Rho → Option Rho) (js : List Nat) : Prop := ∃ t : TG, (∀ X, Is g X → PG X tg t) ∧
  ∀ fx Z H ρ σ ex d v ρ', Wd g.K fx Z H ρ σ ex → Rep g.K Z v d → f d ρ = some ρ' → ∀ Q, (∀ σ', Wd g.K fx Z H ρ' σ' ex → σ'.length = σ.length → (∀ i, i ∉ js → σ'[i]? = σ[i]?) → Q σ' H) → t v σ H Q
/-- several targets, one behind another -/
def SGs (g : Gm) (tgs : List Expr) (f : List D → Rho → Option Rho) (js : List Nat) : Prop := ∃ t : TGs, (∀ X, Is g X → PGs X tgs t) ∧
  ∀ fx Z H ρ σ ex ds vs ρ', Wd g.K fx Z H ρ σ ex → Reps g.K Z vs ds → f ds ρ = some ρ' → ∀ Q, (∀ σ', Wd g.K fx Z H ρ' σ' ex → σ'.length = σ.length → (∀ i, i ∉ js → σ'[i]? = σ[i]?) → Q σ' H) → t vs σ H Q
theorem pi_or {X : Cx} {tg e : Expr} {w1 w2 : TI} (a : PI X tg e w1) (b : PI X tg e w2) : PI X tg e (fun σ H R => w1 σ H R ∨ w2 σ H R) := ⟨fun pins s σ H R I h => by
  rcases h with h | h
  · exact a.run pins s σ H R I h
  · exact b.run pins s σ H R I h⟩

section
variable {g : Gm} {fx : Fx} {Z Z' H H' : Hp} {ρ ρ1 : Rho} {σ : L2.St} {ex : List Addr} {α β : Type}
variable {e a b c tg : Expr} {fa fb fc : F D} {pos p : Pos} {es : List Expr} {fs : F (List D)} {ga gb : F Bool} {rest : List Expr} {x : Str} {k n : Nat}

theorem seq_uniq {K : PySem.W.Frag} {a : Addr} {xs ys : List V} (h : Z a = some (.lst xs)) (z : Zle Z H) (h2 : SqL K H a ys) (hk : ∀ o, K.lookup a = some o → False) : ys = xs := by
  rcases h2 with (h2 | ⟨o, h2⟩) | ⟨o, _, _, q, _⟩
  · rw [z _ _ h] at h2; cases h2; rfl
  · rw [z _ _ h] at h2; cases h2
  · exact (hk o q).elim

/-! ### lists, tuples, texts -/
theorem walk_list {K : PySem.W.Frag} {a : Addr} {vs : List V} {ds : List D} (h : SqL K Z a vs) (r : Reps K Z vs ds) : Walk K (Itl K a) Z ds := by
  have l := r.length
  refine ⟨fun i Z' H' z zh hi => ⟨vs, zh.sqL (z.sqL h), by omega⟩, fun i d hd Z' H' z zh => ?_, fun i d hd Z' H' x H'' z zh y => ?_⟩
  · obtain ⟨v, h1, _⟩ := r.get hd
    exact ⟨vs, v, zh.sqL (z.sqL h), h1⟩
  · obtain ⟨e, y⟩ := y
    subst e
    obtain ⟨v, h1, h2⟩ := r.get hd
    have := y vs (zh.sqL (z.sqL h))
    rw [h1] at this
    cases this
    exact ⟨Z', .refl zh, h2.mono z⟩
theorem walk_tup {K : PySem.W.Frag} {a : Addr} {vs : List V} {ds : List D} (h : SqT K Z a vs) (r : Reps K Z vs ds) : Walk K (Itt K a) Z ds := by
  have l := r.length
  refine ⟨fun i Z' H' z zh hi => ⟨vs, zh.sqT (z.sqT h), by omega⟩, fun i d hd Z' H' z zh => ?_, fun i d hd Z' H' x H'' z zh y => ?_⟩
  · obtain ⟨v, h1, _⟩ := r.get hd
    exact ⟨vs, v, zh.sqT (z.sqT h), h1⟩
  · obtain ⟨e, y⟩ := y
    subst e
    obtain ⟨v, h1, h2⟩ := r.get hd
    have := y vs (zh.sqT (z.sqT h))
    rw [h1] at this
    cases this
    exact ⟨Z', .refl zh, h2.mono z⟩
def signsOf (s : Str) : List D := s.cps.toList.map fun c => D.str ⟨#[c]⟩
theorem walk_str {K : PySem.W.Frag} {s : Str} : Walk K (Its s) Z (signsOf s) := by
  have l : (signsOf s).length = s.cps.size := by simp [signsOf]
  refine ⟨fun i Z' H' z zh hi => by show s.cps.size ≤ i; omega, fun i d hd Z' H' z zh => ?_, fun i d hd Z' H' x H'' z zh y => ?_⟩
  · have := (List.getElem?_eq_some_iff.mp hd).1
    show i < s.cps.size
    omega
  · obtain ⟨e, c, h1, rfl⟩ := y
    subst e
    refine ⟨Z', .refl zh, ?_⟩
    unfold signsOf at hd
    rw [List.getElem?_map, Array.getElem?_toList, h1] at hd
    cases hd
    exact .str _
def items? : D → Option (List D)
  | .str s => some (signsOf s)
  | d => sq? d
def fItems (fa : F D) : F (List D) := fa.bind fun d => F.of (items? d)
/-- over a list, a tuple, a text -/
theorem si_any (ha : SE g a fa) : SI g tg a (fItems fa) := by
  obtain ⟨ta, pa, sa⟩ := ha
  refine ⟨fun σ H R => (iList g.K ta σ H R ∨ iTup g.K ta σ H R) ∨ iStr ta σ H R, fun X is => by rw [← is.K]; exact pi_or (pi_or (pi_list (pa X is)) (pi_tup (pa X is))) (pi_str (pa X is)), fun fx Z H ρ σ ex w r e x Rr k => ?_⟩
  rcases bind_some e with ⟨d, ρ', e1, e2⟩ | ⟨xx, ρ', e1, e2⟩
  · obtain ⟨ds, h1, h2⟩ := of_some e2
    by_cases hs : ∃ s, d = .str s
    · obtain ⟨s, rfl⟩ := hs
      cases h1
      refine .inr ?_
      show ta σ H fun v H1 => ∃ x, v = .str x ∧ Rr (Its x) H1
      refine sa fx Z H ρ σ ex w _ e1 (fun _ _ z => nomatch z) _ fun d' ρ1 q v Z1 H1 m rp => ?_
      cases q
      cases rp
      exact ⟨s, rfl, k _ _ h2 _ Z1 H1 m walk_str⟩
    · have h1' : sq? d = some ds := by
        cases d with
        | str s => exact absurd ⟨s, rfl⟩ hs
        | _ => exact h1
      refine .inl ?_
      rcases sq_cases h1' with q | q
      · refine .inr ?_
        show ta σ H fun x H1 => ∃ a, x = .ref a ∧ (∃ xs, SqT g.K H1 a xs) ∧ Rr (Itt g.K a) H1
        refine sa fx Z H ρ σ ex w _ e1 (fun _ _ z => nomatch z) _ fun d' ρ1 qq v Z1 H1 m rp => ?_
        cases qq
        obtain ⟨a', vs, rfl, hs', rs⟩ := rp.sqT (.refl _) q
        exact ⟨a', rfl, ⟨vs, m.zh.sqT hs'⟩, k _ _ h2 _ Z1 H1 m (walk_tup hs' rs)⟩
      · refine .inl ?_
        show ta σ H fun x H1 => ∃ a, x = .ref a ∧ (∃ xs, SqL g.K H1 a xs) ∧ Rr (Itl g.K a) H1
        refine sa fx Z H ρ σ ex w _ e1 (fun _ _ z => nomatch z) _ fun d' ρ1 qq v Z1 H1 m rp => ?_
        cases qq
        obtain ⟨a', vs, rfl, hs', rs⟩ := rp.sqL (.refl _) q
        exact ⟨a', rfl, ⟨vs, m.zh.sqL hs'⟩, k _ _ h2 _ Z1 H1 m (walk_list hs' rs)⟩
  · subst e2
    refine .inl (.inl ?_)
    show ta σ H fun x H1 => ∃ a, x = .ref a ∧ (∃ xs, SqL g.K H1 a xs) ∧ Rr (Itl g.K a) H1
    exact sa fx Z H ρ σ ex w _ e1 x.thru _ fun d ρ1 z => nomatch z

/-! ### range, enumerate, zip -/
def rangeD (i j : Int) : List D := (List.range (j - i).toNat).map fun n => D.int (i + (n : Nat))
theorem walk_range {K : PySem.W.Frag} {lo : Int} {n : Nat} {ds : List D} (h : ds = (List.range n).map fun (m : Nat) => D.int (lo + m)) : Walk K (Itr lo n) Z ds := by
  subst h
  refine ⟨fun i Z' H' z zh hi => (by show n ≤ i; simp at hi; omega), fun i d hd Z' H' z zh => ?_, fun i d hd Z' H' x H'' z zh y => ?_⟩
  · have := (List.getElem?_eq_some_iff.mp hd).1
    show i < n
    simpa using this
  · obtain ⟨e, rfl⟩ := y
    subst e
    have := (List.getElem?_eq_some_iff.mp hd)
    obtain ⟨h1, h2⟩ := this
    simp at h2
    subst h2
    exact ⟨Z', .refl zh, .int _⟩
def oRange1 : List D → Option (List D)
  | [.int j] => if -(2 ^ 62) ≤ j ∧ j < 2 ^ 62 then some (rangeD 0 j) else none
  | _ => none
def oRange2 : List D → Option (List D)
  | [.int i, .int j] => if -(2 ^ 62) ≤ i ∧ i < 2 ^ 62 ∧ -(2 ^ 62) ≤ j ∧ j < 2 ^ 62 then some (rangeD i j) else none
  | _ => none
def fIt (o : List D → Option (List D)) (fs : F (List D)) : F (List D) := fs.bind fun ds => F.of (o ds)
theorem si_range1 (hg : g.sc.names.lookup ("range" : Str) = some .globalImplicit) (hm : g.mg "range" = none) (ha : SA g [a] fs) (hs : ∀ env, starEach [a] env = [(false, eval a env)] := by intro _; rfl) : SI g tg (.Call (.Name "range" p) [a] [] pos) (fIt oRange1 fs) := by
  obtain ⟨t, pt, s⟩ := ha
  refine ⟨iRng1 t, fun X is => pi_range1 (is.gl hg) (by rw [is.mg]; exact hm) (pt X is) (hs _), fun fx Z H ρ σ ex w r e x Rr k => ?_⟩
  show t σ H fun vs H1 => ∃ j : Int, vs = [.int j] ∧ -(2 ^ 62) ≤ j ∧ j < 2 ^ 62 ∧ Rr (Itr 0 j.toNat) H1
  refine sa_run s w e x fun ds ρ1 vs Z1 H1 e1 m1 r1 x1 => ?_
  obtain ⟨d', h1, h2⟩ := of_some e1
  unfold oRange1 at h1
  split at h1
  · rename_i j
    split at h1
    · rename_i hj
      cases h1
      cases r1 with
      | cons q r1 =>
        cases q
        cases r1
        exact ⟨j, rfl, hj.1, hj.2, k _ _ h2 _ Z1 H1 m1 (walk_range (by unfold rangeD; rw [Int.sub_zero]))⟩
    · cases h1
  · cases h1
theorem si_range2 (hg : g.sc.names.lookup ("range" : Str) = some .globalImplicit) (hm : g.mg "range" = none) (ha : SA g [a, b] fs) (hs : ∀ env, starEach [a, b] env = [(false, eval a env), (false, eval b env)] := by intro _; rfl) (hs2 : ∀ env, starEach [b] env = [(false, eval b env)] := by intro _; rfl) :
    SI g tg (.Call (.Name "range" p) [a, b] [] pos) (fIt oRange2 fs) := by
  obtain ⟨t, pt, s⟩ := ha
  refine ⟨iRng2 t, fun X is => pi_range2 (is.gl hg) (by rw [is.mg]; exact hm) (pt X is) (hs _) (hs2 _), fun fx Z H ρ σ ex w r e x Rr k => ?_⟩
  show t σ H fun vs H1 => ∃ i j : Int, vs = [.int i, .int j] ∧ (-(2 ^ 62) ≤ i ∧ i < 2 ^ 62 ∧ -(2 ^ 62) ≤ j ∧ j < 2 ^ 62) ∧ Rr (Itr i (j - i).toNat) H1
  refine sa_run s w e x fun ds ρ1 vs Z1 H1 e1 m1 r1 x1 => ?_
  obtain ⟨d', h1, h2⟩ := of_some e1
  unfold oRange2 at h1
  split at h1
  · rename_i i j
    split at h1
    · rename_i hj
      cases h1
      cases r1 with
      | cons q r1 =>
        cases q
        cases r1 with
        | cons q r1 =>
          cases q
          cases r1
          exact ⟨i, j, rfl, hj, k _ _ h2 _ Z1 H1 m1 (walk_range rfl)⟩
    · cases h1
  · cases h1
def enumD (i : Nat) : List D → List D
  | [] => []
  | d :: ds => .tup [.int (i : Nat), d] :: enumD (i + 1) ds
theorem enumD_get : ∀ {ds : List D} {j i : Nat} {d : D}, (enumD j ds)[i]? = some d → ∃ d0, ds[i]? = some d0 ∧ d = .tup [.int ((j + i : Nat) : Int), d0]
  | [], _, _, _, h => by simp [enumD] at h
  | d0 :: ds, j, 0, d, h => by simp [enumD] at h; subst h; exact ⟨d0, rfl, rfl⟩
  | d0 :: ds, j, i + 1, d, h => by
    obtain ⟨d1, h1, h2⟩ := enumD_get (ds := ds) (j := j + 1) (i := i) (d := d) (by simpa [enumD] using h)
    exact ⟨d1, by simpa using h1, by rw [h2]; congr 3; omega⟩
theorem enumD_length : ∀ (ds : List D) (j : Nat), (enumD j ds).length = ds.length
  | [], _ => rfl
  | _ :: ds, j => by simp [enumD, enumD_length ds]
theorem walk_enum {K : PySem.W.Frag} {a : Addr} {vs : List V} {ds : List D} (h : SqL K Z a vs) (r : Reps K Z vs ds) : Walk K (Ite K a) Z (enumD 0 ds) := by
  have l := r.length
  have l2 := enumD_length ds 0
  refine ⟨fun i Z' H' z zh hi => ⟨vs, zh.sqL (z.sqL h), by omega⟩, fun i d hd Z' H' z zh => ?_, fun i d hd Z' H' x H'' z zh y => ?_⟩
  · obtain ⟨d0, h0, _⟩ := enumD_get hd
    obtain ⟨v, h1, _⟩ := r.get h0
    exact ⟨vs, v, zh.sqL (z.sqL h), h1⟩
  · obtain ⟨d0, h0, rfl⟩ := enumD_get hd
    obtain ⟨T, u, rfl, hT, rfl, y⟩ := y
    obtain ⟨v, h1, h2⟩ := r.get h0
    have := y vs (zh.sqL (z.sqL h))
    rw [h1] at this
    obtain rfl : v = u := Option.some.inj this
    have gd := Gr.data (o := .tup [.int (i : Nat), v]) zh hT
    refine ⟨_, gd, .tup upd_same (.cons ?_ (.one ((h2.mono z).mono gd.z)))⟩
    rw [Nat.zero_add]
    exact .int _
def oEnum : List D → Option (List D)
  | [d] => (sqL? d).map (enumD 0)
  | _ => none
theorem si_enum {elts : List Expr} {kk : Nat} {tpos : Pos} (hg : g.sc.names.lookup ("enumerate" : Str) = some .globalImplicit) (hm : g.mg "enumerate" = none) (ha : SA g [a] fs) (hs : ∀ env, starEach [a] env = [(false, eval a env)] := by intro _; rfl) :
    SI g (.Tuple elts kk tpos) (.Call (.Name "enumerate" p) [a] [] pos) (fIt oEnum fs) := by
  obtain ⟨t, pt, s⟩ := ha
  refine ⟨iEnum g.K t, fun X is => by rw [← is.K]; exact pi_enum (is.gl hg) (by rw [is.mg]; exact hm) (pt X is) (hs _), fun fx Z H ρ σ ex w r e x Rr k => ?_⟩
  show t σ H fun vs H1 => ∃ a xs, vs = [.ref a] ∧ SqL g.K H1 a xs ∧ Rr (Ite g.K a) H1
  refine sa_run s w e x fun ds ρ1 vs Z1 H1 e1 m1 r1 x1 => ?_
  obtain ⟨d', h1, h2⟩ := of_some e1
  unfold oEnum at h1
  split at h1
  · rename_i d
    cases q : sqL? d with
    | none => rw [q] at h1; cases h1
    | some xs =>
      rw [q] at h1
      cases h1
      cases r1 with
      | cons rd r1 =>
        cases r1
        obtain ⟨a', ws, rfl, hs', rs⟩ := rd.sqL (.refl _) q
        exact ⟨a', ws, rfl, m1.zh.sqL hs', k _ _ h2 _ Z1 H1 m1 (walk_enum hs' rs)⟩
  · cases h1

/-! ### targets -/
def tName (i : Nat) (d : D) (ρ : Rho) : Option Rho := if i < ρ.length then some (ρ.set i (.so false (.va d))) else none
theorem sg_name {i : Nat} {x : Str} (hN : g.N[i]? = some x) (hx : Loc g.sc x) (hl : ∀ X, Is g X → X.fn x = true ∨ X.env.scope.names.lookup x = some .local) : SG g (.Name x pos) (tName i) [i] := by
  refine ⟨gName i, fun X is => pg_name (by rw [is.N]; exact is.nd) (by rw [is.N]; exact hN) (by rw [is.sc]; exact hx) (hl X is), fun fx Z H ρ σ ex d v ρ' w rv e Q k => ?_⟩
  unfold tName at e
  split at e
  · rename_i hi
    cases e
    exact k _ (Wd.put (f := []) w (.va rv) hi) (by simp) fun j hj => by
      rw [List.getElem?_set_ne]
      intro q
      exact hj (by simp [q])
  · cases e
def tsNil (ds : List D) (ρ : Rho) : Option Rho := match ds with
  | [] => some ρ
  | _ => none
def tsCons (f : D → Rho → Option Rho) (r : List D → Rho → Option Rho) (ds : List D) (ρ : Rho) : Option Rho := match ds with
  | d :: ds => (f d ρ).bind (r ds)
  | [] => none
theorem sgs_nil : SGs g [] tsNil [] := by
  refine ⟨gNil, fun X is => pgs_nil, fun fx Z H ρ σ ex ds vs ρ' w rv e Q k => ?_⟩
  cases rv with
  | nil => cases e; exact ⟨rfl, k σ w rfl fun _ _ => rfl⟩
  | cons _ _ => cases e
theorem sgs_cons {f : D → Rho → Option Rho} {fr : List D → Rho → Option Rho} {js ks : List Nat} (ha : SG g e f js) (hs : SGs g es fr ks) (hst : ∀ env, (assignEach (e :: es) env).map (·.2) = assign e env :: (assignEach es env).map (·.2) := by intro _; rfl) : SGs g (e :: es) (tsCons f fr) (js ++ ks) := by
  obtain ⟨t, pt, s⟩ := ha
  obtain ⟨u, pu, su⟩ := hs
  refine ⟨gCons t u, fun X is => pgs_cons (pt X is) (pu X is) (hst _), fun fx Z H ρ σ ex ds vs ρ' w rv e Q k => ?_⟩
  cases rv with
  | nil => cases e
  | cons r1 r2 =>
    obtain ⟨ρ1, h1, h2⟩ := Option.bind_eq_some_iff.mp (show (f _ ρ).bind (fr _) = some ρ' from e)
    refine ⟨_, _, rfl, s fx Z H ρ σ ex _ _ ρ1 w r1 h1 _ fun σ1 w1 l1 f1 => su fx Z H ρ1 σ1 ex _ _ ρ' w1 r2 h2 Q fun σ2 w2 l2 f2 => k σ2 w2 (l2.trans l1) fun i hi => ?_⟩
    rw [f2 i fun q => hi (List.mem_append_right _ q), f1 i fun q => hi (List.mem_append_left _ q)]
def tTuple (n : Nat) (fr : List D → Rho → Option Rho) (d : D) (ρ : Rho) : Option Rho := match d with
  | .tup ds => if ds.length = n then fr ds ρ else none
  | _ => none
theorem sg_tup {fr : List D → Rho → Option Rho} {js : List Nat} {kk n : Nat} (h : SGs g es fr js) (hn : ∀ env, (assignEach es env).length = n := by intro _; rfl) (hst : ∀ env, (assignEach es env).findIdx? (·.1) = none := by intro _; rfl) : SG g (.Tuple es kk pos) (tTuple n fr) js := by
  obtain ⟨t, pt, s⟩ := h
  refine ⟨gTup g.K n t, fun X is => by rw [← is.K]; exact pg_tup is.calm (pt X is) (hn _) (hst _), fun fx Z H ρ σ ex d v ρ' w rv e Q k => ?_⟩
  cases rv with
  | tup ho hr =>
    simp only [tTuple] at e
    split at e
    · rename_i hz
      exact ⟨_, _, rfl, .of (w.zh _ _ ho), by rw [hr.length]; exact hz, s fx Z H ρ σ ex _ _ ρ' w hr e Q k⟩
    · cases e
  | _ => simp [tTuple] at e

/-! ### slots forgotten -/
def wipeR (ρ : Rho) : List Nat → Rho
  | [] => ρ
  | v :: vs => (wipeR ρ vs).set v .no
theorem Wd.wipe : ∀ {vs : List Nat} {σ' : L2.St}, Wd g.K fx Z H ρ σ ex → σ'.length = σ.length → (∀ i, i ∉ vs → σ'[i]? = σ[i]?) → Wd g.K fx Z H (wipeR ρ vs) σ' ex
  | [], σ', w, l, h => by
    have : σ' = σ := List.ext_getElem? fun i => h i (by simp)
    rw [this]; exact w
  | v :: vs, σ', w, l, h => by
    unfold wipeR
    by_cases hv : v < σ.length
    · have ih := Wd.wipe (vs := vs) (σ' := σ'.set v σ[v]) w (by simpa using l) fun i hi => by
        by_cases q : v = i
        · subst q
          rw [List.getElem?_set_self (by omega), List.getElem?_eq_getElem hv]
        · rw [List.getElem?_set_ne q]
          exact h i fun z => (List.mem_cons.mp z).elim (fun y => q y.symm) hi
      have hv' : v < σ'.length := by omega
      have := ih.forget (i := v) σ'[v]
      rwa [List.set_set, set_self σ' v _ (List.getElem?_eq_getElem hv')] at this
    · have ih := Wd.wipe (vs := vs) (σ' := σ') w l fun i hi => by
        by_cases q : v = i
        · subst q
          rw [List.getElem?_eq_none (by omega), List.getElem?_eq_none (by omega)]
        · exact h i fun z => (List.mem_cons.mp z).elim (fun y => q y.symm) hi
      exact ih.lose
theorem wipe_out' {σ : L2.St} {vs : List Nat} {i : Nat} (h : i ∉ vs) : (L2.wipe σ vs)[i]? = σ[i]? := wipe_out h
theorem wipe_ext {σ σ' : L2.St} : ∀ {vs : List Nat}, σ'.length = σ.length → (∀ i, i ∉ vs → σ'[i]? = σ[i]?) → L2.wipe σ' vs = L2.wipe σ vs := by
  intro vs hl h
  refine List.ext_getElem? fun i => ?_
  by_cases hi : i ∈ vs
  · have aux : ∀ (τ : L2.St), τ.length = σ.length → (L2.wipe τ vs)[i]? = if i < σ.length then some none else none := by
      intro τ ht
      clear h
      induction vs with
      | nil => simp at hi
      | cons v vs ih =>
        unfold L2.wipe
        by_cases q : v = i
        · subst q
          by_cases hlt : v < σ.length
          · rw [List.getElem?_set_self (by rw [wipe_length]; omega), if_pos hlt]
          · rw [List.getElem?_eq_none (by rw [List.length_set, wipe_length]; omega), if_neg hlt]
        · rw [List.getElem?_set_ne q]
          exact ih ((List.mem_cons.mp hi).elim (fun y => absurd y.symm q) id)
    rw [aux σ' hl, aux σ rfl]
  · rw [wipe_out hi, wipe_out hi]
    exact h i hi
end
end FL
set_option Elab.async false
set_option linter.all false
set_option maxRecDepth 100000
set_option maxHeartbeats 1000000
/-! FL8: comprehensions, statements -/
namespace FL
open PySem PySem.Spec PyProof.Rows L2

def Gm.blk (g : Gm) (scope : Scope) : Gm := { g with sc := relS scope g.sc, E := fun _ _ _ => False, top := false, fnn := fun x => scope.names.lookup x == some .cell }
def STs (g : Gm) (ifs : List Expr) (f : F Bool) : Prop := ∃ t : TT, (∀ X, Is g X → PTs X ifs t) ∧ SemT g t f
/-- the turns of a comprehension -/
def lcLoop (tg : D → Rho → Option Rho) (gt : F Bool) (fe : F D) (vs : List Nat) : List D → List D → Rho → Option (List D × Rho)
  | [], acc, ρ => some (acc, ρ)
  | x :: xs, acc, ρ => match tg x (wipeR ρ vs) with
    | none => none
    | some ρ1 => match gt ρ1 with
      | some (.ok true ρ2) => (match fe ρ2 with
        | some (.ok d ρ3) => lcLoop tg gt fe vs xs (acc ++ [d]) (wipeR ρ3 vs)
        | _ => none)
      | some (.ok false ρ2) => lcLoop tg gt fe vs xs acc (wipeR ρ2 vs)
      | _ => none
def fLc (fi : F (List D)) (tg : D → Rho → Option Rho) (gt : F Bool) (fe : F D) (vs : List Nat) : F W := fi.bind fun ds ρ =>
  if ds.length ≤ sizeLine then (lcLoop tg gt fe vs ds [] ρ).map fun p => .ok (.ls p.1) p.2 else none

section
variable {g : Gm} {fx : Fx} {Z Z' H H' : Hp} {ρ ρ1 : Rho} {σ : L2.St} {ex : List Addr} {α β : Type}
variable {e a b c tg : Expr} {fa fb fc : F D} {pos p : Pos} {es : List Expr} {fs : F (List D)} {ga gb : F Bool} {rest : List Expr} {x : Str} {k n : Nat}
theorem Is.blk {X : Cx} (is : Is g X) (scope : Scope) (s : Shared) (H : Hp) (cl : List (Str × Addr)) (C : Addr) (fp : List Addr) : Is (g.blk scope) (X.blk s H scope (compEnvC scope cl C X.env) fp) where
  prog := is.prog
  w := is.w
  K := is.K
  mg := is.mg
  base := is.base
  N := is.N
  nd := is.nd
  sc := by
    show relS scope X.env.scope = relS scope g.sc
    rw [is.sc]
  calm := is.calm
  room := is.room
  tk := takes0
  fn := fun x h => h
  po := fun h => nomatch h
  st := fun h => nomatch h
theorem sts_nil : STs g [] (F.ret true) := ⟨tYes, fun _ _ => pts_nil, fun fx Z H ρ σ ex w r e x Q k => by cases e; exact k true ρ rfl Z H (.refl w)⟩
theorem sts_one (h : ST g c ga) : STs g [c] ga := by
  obtain ⟨t, p, s⟩ := h
  exact ⟨t, fun X is => pts_one (p X is), s⟩
/-- a thing owned beside the slots is changed -/
theorem Wd.updEx {K : PySem.W.Frag} {a : Addr} {o : HO} (w : Wd K fx Z H ρ σ (a :: ex)) (ho : ∀ u, NOwn u → o ≠ u := by (rintro _ (⟨_, rfl⟩ | ⟨_, rfl⟩ | ⟨_, _, rfl⟩) z <;> cases z)) : Wd K fx Z (upd H a o) ρ σ (a :: ex) ∧ ∀ b ∈ ex, upd H a o b = H b := by
  obtain ⟨fp, h⟩ := w
  have nd := h.nd
  have ha : a ∈ fp ++ a :: ex := by simp
  have hne : ∀ b ∈ fp, b ≠ a := fun b hb => by
    simp only [List.nodup_append, List.nodup_cons, List.mem_cons] at nd
    grind
  have hne2 : ∀ b ∈ ex, b ≠ a := fun b hb => by
    simp only [List.nodup_append, List.nodup_cons, List.mem_cons] at nd
    grind
  have hth : ∀ b, H b ≠ none → upd H a o b ≠ none := fun b n => by
    by_cases q : b = a
    · rw [q, upd_same]; exact fun z => nomatch z
    · rw [upd_ne q]; exact n
  refine ⟨⟨fp, ⟨h.sl.keep (.refl _) fun b hb => upd_ne (hne b hb), h.nd, h.zn, fun b hb => hth b (h.th b hb), fun b hb vs hv => ?_, h.xn, fun b u e => ?_, fun b u e n => ?_, h.zf, fun b n => hth b (h.dm b n), tabs_upd h.tb (h.nt a ha)⟩⟩, fun b hb => upd_ne (hne2 b hb)⟩
  · by_cases q : b = a
    · rw [q, upd_same]; exact fun q => ho vs hv (Option.some.inj q)
    · rw [upd_ne q]; exact h.nt b hb vs hv
  · have : b ≠ a := fun q => by rw [q, h.zn a ha] at e; cases e
    rw [upd_ne this]; exact h.zh b u e
  · have : b ≠ a := fun q => by rw [q, h.xn a List.mem_cons_self] at e; cases e
    rw [upd_ne this]; exact h.kp b u e n
theorem wipeR_length : ∀ vs : List Nat, (wipeR ρ vs).length = ρ.length
  | [] => rfl
  | v :: vs => by unfold wipeR; rw [List.length_set, wipeR_length vs]
theorem sem_lc {wi : TI} {tgt : TG} {tt : TT} {te : TE} {scope : Scope} {vs : List Nat} {fi : F (List D)} {ftg : D → Rho → Option Rho} {gt : F Bool} {fe : F D} {js : List Nat} (si : SemI g wi fi)
    (sg : ∀ fx Z H ρ σ ex d v ρ', Wd (g.blk scope).K fx Z H ρ σ ex → Rep (g.blk scope).K Z v d → ftg d ρ = some ρ' → ∀ Q, (∀ σ', Wd (g.blk scope).K fx Z H ρ' σ' ex → σ'.length = σ.length → (∀ i, i ∉ js → σ'[i]? = σ[i]?) → Q σ' H) → tgt v σ H Q)
    (hj : ∀ j ∈ js, j ∈ vs) (st : SemT (g.blk scope) tt gt) (se : SemE (g.blk scope) te fe) : SemW g (tLc wi tgt tt te vs) (fLc fi ftg gt fe vs) := fun fx Z H ρ σ ex w r e x Q k => by
  show wi σ H fun J H1 => ∀ D, H1 D = none → ∃ W : Nat → Nat → Hp → Prop, (∃ m, W 0 m (upd H1 D (.lst []))) ∧ ∀ i m H, W i m H →
    (J.stop i H ∧ Q (.ref D) H) ∨ (J.go i H ∧ ∃ Nx : Hp → Prop, (∀ H', Nx H' → ∃ m', m' < m ∧ W (i + 1) m' H') ∧ ∀ x H', J.yld i H x H' → tgt x (L2.wipe σ vs) H' fun σ2 H2 => L2.wipe σ2 vs = L2.wipe σ vs ∧ tt σ2 H2 fun b H3 =>
      if b = true then te σ2 H3 fun y H4 => ∃ acc, H4 D = some (.lst acc) ∧ acc.length < sizeLine ∧ Nx (upd H4 D (.lst (acc ++ [y]))) else Nx H3)
  rcases bind_some e with ⟨ds, ρ1, e1, e2⟩ | ⟨xx, ρ', e1, e2⟩
  case inr =>
    subst e2
    exact si fx Z H ρ σ ex w _ e1 x.thru _ fun d ρ1 z => nomatch z
  refine si fx Z H ρ σ ex w _ e1 (fun _ _ z => nomatch z) _ fun ds' ρ1' z J Z1 H1 m1 wk D hD => ?_
  cases z
  split at e2
  case isFalse => cases e2
  rename_i hsz
  cases hl : lcLoop ftg gt fe vs ds [] ρ1 with
  | none => rw [hl] at e2; cases e2
  | some out =>
  rw [hl] at e2
  obtain ⟨out, ρo⟩ := out
  cases e2
  obtain ⟨w1, f1⟩ := m1.new (o := .lst []) hD
  refine ⟨fun i m H' => m = ds.length - i ∧ i ≤ ds.length ∧ ∃ Z' ρ' acc vacc, lcLoop ftg gt fe vs (ds.drop i) acc ρ' = some (out, ρo) ∧ Zle Z1 Z' ∧ Wd g.K fx Z' H' ρ' σ ([D] ++ ex) ∧ (∀ a ∈ ex, H' a = H a) ∧ H' D = some (.lst vacc) ∧ Reps g.K Z' vacc acc ∧ acc.length ≤ i,
    ⟨ds.length, by simp, Nat.zero_le _, Z1, ρ1, [], [], hl, .refl _, w1, f1, upd_same, .nil, Nat.le_refl _⟩, ?_⟩
  rintro i m H' ⟨rfl, hi, Z', ρ', acc, vacc, hlp, z1, w', f', hD', ra, la⟩
  by_cases hlt : i < ds.length
  case neg =>
    have ei : i = ds.length := by omega
    rw [ei, List.drop_length] at hlp
    cases hlp
    refine .inl ⟨wk.stop i Z' H' z1 w'.zh (by omega), ?_⟩
    exact k (.ls out) ρo rfl (.ref D) Z' H' [D] (m1.z.trans z1) w' f' (.ls hD' ra)
  case pos =>
    have hd : ds[i]? = some ds[i] := List.getElem?_eq_getElem hlt
    refine .inr ⟨wk.go i _ hd Z' H' z1 w'.zh, fun H'' => ds.length - (i + 1) < ds.length - i ∧ ∃ Z' ρ' acc vacc, lcLoop ftg gt fe vs (ds.drop (i + 1)) acc ρ' = some (out, ρo) ∧ Zle Z1 Z' ∧ Wd g.K fx Z' H'' ρ' σ ([D] ++ ex) ∧ (∀ a ∈ ex, H'' a = H a) ∧ H'' D = some (.lst vacc) ∧ Reps g.K Z' vacc acc ∧ acc.length ≤ i + 1,
      fun H'' ⟨h1, h2⟩ => ⟨_, h1, rfl, hlt, h2⟩, fun v H2 y => ?_⟩
    obtain ⟨Z2, g2, rv⟩ := wk.yld i _ hd Z' H' v H2 z1 w'.zh y
    rw [List.drop_eq_getElem_cons hlt] at hlp
    unfold lcLoop at hlp
    have w2 := w'.gr g2
    have w2' : Wd g.K fx Z2 H2 (wipeR ρ' vs) (L2.wipe σ vs) ([D] ++ ex) := Wd.wipe w2 (wipe_length _ _) fun i hi => wipe_out hi
    have keepD : ∀ a ∈ [D] ++ ex, H2 a = H' a := fun a ha => by
      obtain ⟨fp, h⟩ := w'
      have n := h.th a (List.mem_append_right _ ha)
      cases q : H' a with
      | none => exact absurd q n
      | some o => exact g2.h a o q
    split at hlp
    case h_1 => cases hlp
    rename_i ρt ht
    refine sg fx Z2 H2 (wipeR ρ' vs) (L2.wipe σ vs) _ _ v ρt w2' rv ht _ fun σ2 w3 l3 f3 => ?_
    have hw : L2.wipe σ2 vs = L2.wipe σ vs := by
      rw [wipe_ext (σ := L2.wipe σ vs) (σ' := σ2) (vs := vs) l3 fun i hi => f3 i fun hh => hi (hj i hh)]
      exact wipe_ext (wipe_length _ _) fun i hi => wipe_out hi
    have back : ∀ i, i ∉ vs → σ[i]? = σ2[i]? := fun i hi => by
      rw [← wipe_out' (σ := σ) hi, ← hw, wipe_out' hi]
    have lback : σ.length = σ2.length := by rw [l3, wipe_length]
    refine ⟨hw, ?_⟩
    split at hlp
    · rename_i ρ2 hgt
      refine st fx Z2 H2 ρt σ2 _ w3 _ hgt (fun _ _ z => nomatch z) _ fun bb ρb zb Z3 H3 m3 => ?_
      cases zb
      rw [if_pos rfl]
      split at hlp
      · rename_i d ρ3 hfe
        refine se fx Z3 H3 ρ2 σ2 _ m3.wd _ hfe (fun _ _ z => nomatch z) _ fun dd ρd zd u Z4 H4 m4 ru => ?_
        cases zd
        have hD4 : H4 D = some (.lst vacc) := by rw [m4.fr D (by simp), m3.fr D (by simp), keepD D (by simp)]; exact hD'
        have lv := ra.length
        refine ⟨vacc, hD4, by omega, by omega, Z4, wipeR ρ3 vs, acc ++ [d], vacc ++ [u], hlp, ((z1.trans g2.z).trans m3.z).trans m4.z, ?_, ?_, upd_same, (ra.mono ((g2.z.trans m3.z).trans m4.z)).append (.one ru), by simp; omega⟩
        · exact Wd.wipe (Wd.updEx (a := D) (ex := ex) m4.wd).1 lback back
        · intro a ha
          rw [(Wd.updEx (a := D) (ex := ex) (o := .lst (vacc ++ [u])) m4.wd).2 a ha, m4.fr a (by simp [ha]), m3.fr a (by simp [ha]), keepD a (by simp [ha])]
          exact f' a ha
      · cases hlp
    · rename_i ρ2 hgt
      refine st fx Z2 H2 ρt σ2 _ w3 _ hgt (fun _ _ z => nomatch z) _ fun bb ρb zb Z3 H3 m3 => ?_
      cases zb
      rw [if_neg Bool.false_ne_true]
      refine ⟨by omega, Z3, wipeR ρ2 vs, acc, vacc, hlp, (z1.trans g2.z).trans m3.z, Wd.wipe m3.wd lback back, ?_, by rw [m3.fr D (by simp), keepD D (by simp)]; exact hD', ra.mono (g2.z.trans m3.z), by omega⟩
      intro a ha
      rw [m3.fr a (by simp [ha]), keepD a (by simp [ha])]
      exact f' a ha
    · cases hlp
theorem sw_lc {iter elt : Expr} {ifs : List Expr} {scope : Scope} {own : List (Str × Nat)} {fi : F (List D)} {ftg : D → Rho → Option Rho} {gt : F Bool} {fe : F D} {js : List Nat} (hi : SI g tg iter fi) (ok : BlkOk g.N g.sc scope own)
    (hg : SG (g.blk scope) tg ftg js) (hj : ∀ j ∈ js, j ∈ own.map (·.2)) (ht : STs (g.blk scope) ifs gt) (he : SE (g.blk scope) elt fe) (hs : ∀ env x, foldedSetIterable iter env x = pure x := by intro _ _; rfl) :
    SW g (.ListComp elt [⟨tg, iter, ifs, 0⟩] scope pos) (fLc fi ftg gt fe (own.map (·.2))) := by
  obtain ⟨wi, pi, si⟩ := hi
  obtain ⟨tgt, pg, sg⟩ := hg
  obtain ⟨tt, pt, st⟩ := ht
  obtain ⟨te, pe, se⟩ := he
  refine ⟨tLc wi tgt tt te (own.map (·.2)), fun X is => ?_, sem_lc si sg hj st se⟩
  exact pe_lc is.calm (by rw [is.N]; exact is.nd) (pi X is) (by rw [is.N, is.sc]; exact ok) (fun s H C cl fp => pg _ (is.blk scope s H cl C fp)) (fun s H C cl fp => pt _ (is.blk scope s H cl C fp)) (fun s H C cl fp => pe _ (is.blk scope s H cl C fp)) (hs _)
end
end FL
set_option Elab.async false
set_option linter.all false
set_option maxRecDepth 100000
set_option maxHeartbeats 1000000
/-! FL9: statements -/
namespace FL
open PySem PySem.Spec PyProof.Rows L2

inductive Out where
  | nx (ρ : Rho) | rt (w : W) (ρ : Rho) | bk (ρ : Rho) | ct (ρ : Rho) | ex (e : Ex) (ρ : Rho)
abbrev FS := Nat → Rho → Option Out
def OkS (g : Gm) (fx : Fx) (Z : Hp) (o : Out) (D : Ends) : Prop := match o with
  | .nx ρ' => ∀ Z' H' σ', Zle Z Z' → Wd g.K fx Z' H' ρ' σ' [] → D.nx σ' H'
  | .bk ρ' => ∀ Z' H' σ', Zle Z Z' → Wd g.K fx Z' H' ρ' σ' [] → D.bk σ' H'
  | .ct ρ' => ∀ Z' H' σ', Zle Z Z' → Wd g.K fx Z' H' ρ' σ' [] → D.ct σ' H'
  | .rt w ρ' => ∀ v Z' H' σ' fp, Zle Z Z' → Wd g.K fx Z' H' ρ' σ' fp → RepW g.K Z' H' v w fp → D.rt v H'
  | .ex e ρ' => ∀ c d Z' H' σ', Zle Z Z' → Wd g.K fx Z' H' ρ' σ' [] → ExR g.K Z' H' e c d → g.E c d H'
abbrev SemS (g : Gm) (t : TS) (f : FS) : Prop := ∀ fx Z H ρ σ, Wd g.K fx Z H ρ σ [] → ∀ n o, f n ρ = some o → ∀ D, OkS g fx Z o D → t D σ H
def SS (g : Gm) (st : Stmt) (f : FS) : Prop := ∃ t : TS, (∀ X, Is g X → PS X st t) ∧ SemS g t f
def SSs (g : Gm) (sts : List Stmt) (f : FS) : Prop := ∃ t : TS, (∀ X, Is g X → PSs X sts t) ∧ SemS g t f
/-- an expression, then what its value does -/
def FS.of {α : Type} (f : F α) (k : α → FS) : FS := fun n ρ => match f ρ with
  | some (.ok a ρ') => k a n ρ'
  | some (.ex e ρ') => some (.ex e ρ')
  | none => none

section
variable {g : Gm} {fx : Fx} {Z Z' H H' : Hp} {ρ ρ1 : Rho} {σ : L2.St} {ex : List Addr} {α β : Type}
variable {e a b c tg : Expr} {fa fb fc : F D} {pos p : Pos} {es : List Expr} {fs : F (List D)} {ga gb : F Bool} {rest : List Expr} {x : Str} {k n : Nat} {st : Stmt} {sts : List Stmt} {f f1 f2 : FS}
theorem OkS.mono {o : Out} {D : Ends} (h : OkS g fx Z o D) (z : Zle Z Z') : OkS g fx Z' o D := by
  cases o with
  | nx ρ' => exact fun Z2 H2 σ2 z2 => h Z2 H2 σ2 (z.trans z2)
  | bk ρ' => exact fun Z2 H2 σ2 z2 => h Z2 H2 σ2 (z.trans z2)
  | ct ρ' => exact fun Z2 H2 σ2 z2 => h Z2 H2 σ2 (z.trans z2)
  | rt w ρ' => exact fun v Z2 H2 σ2 fp z2 => h v Z2 H2 σ2 fp (z.trans z2)
  | ex e ρ' => exact fun c d Z2 H2 σ2 z2 => h c d Z2 H2 σ2 (z.trans z2)
theorem OkS.xc {o : Out} {D : Ends} {r : R α} (h : OkS g fx Z o D) (e : ∀ x ρ', r = .ex x ρ' → o = .ex x ρ') : XC g fx Z H σ [] r := fun x ρ' q c d Z2 H2 m er => by
  rw [e x ρ' q] at h
  exact h c d Z2 H2 σ m.z m.wd er
theorem of_cases {f : F α} {k : α → FS} {o : Out} (e : FS.of f k n ρ = some o) : (∃ a ρ', f ρ = some (.ok a ρ') ∧ k a n ρ' = some o) ∨ ∃ x ρ', f ρ = some (.ex x ρ') ∧ o = .ex x ρ' := by
  unfold FS.of at e
  split at e
  · rename_i a ρ' q
    exact .inl ⟨a, ρ', q, e⟩
  · rename_i x ρ' q
    exact .inr ⟨x, ρ', q, (Option.some.inj e).symm⟩
  · cases e
theorem s_run {te : TE} {h : D → FS} {o : Out} {D' : Ends} {Q : VK} (sem : SemE g te fa) (w : Wd g.K fx Z H ρ σ []) (e : FS.of fa h n ρ = some o) (ok : OkS g fx Z o D')
    (k : ∀ d ρ1 v Z1 H1, h d n ρ1 = some o → Mv g fx Z H ρ1 σ [] Z1 H1 → Rep g.K Z1 v d → OkS g fx Z1 o D' → Q v H1) : te σ H Q := by
  rcases of_cases e with ⟨a, ρ', e1, e2⟩ | ⟨x, ρ', e1, rfl⟩
  · refine sem fx Z H ρ σ [] w _ e1 (fun _ _ z => nomatch z) Q fun d ρ1 z v Z1 H1 m rp => ?_
    cases z
    exact k _ _ v Z1 H1 e2 m rp (ok.mono m.z)
  · exact sem fx Z H ρ σ [] w _ e1 (ok.xc fun x2 ρ2 q => by cases q; rfl) Q fun d ρ1 z => nomatch z
theorem sW_run {te : TE} {f : F W} {h : W → FS} {o : Out} {D' : Ends} {Q : VK} (sem : SemW g te f) (w : Wd g.K fx Z H ρ σ []) (e : FS.of f h n ρ = some o) (ok : OkS g fx Z o D')
    (k : ∀ d ρ1 v Z1 H1 fp, h d n ρ1 = some o → Zle Z Z1 → Wd g.K fx Z1 H1 ρ1 σ fp → RepW g.K Z1 H1 v d fp → OkS g fx Z1 o D' → Q v H1) : te σ H Q := by
  rcases of_cases e with ⟨a, ρ', e1, e2⟩ | ⟨x, ρ', e1, rfl⟩
  · refine sem fx Z H ρ σ [] w _ e1 (fun _ _ z => nomatch z) Q fun d ρ1 z v Z1 H1 fp zl wd _ rp => ?_
    cases z
    rw [List.append_nil] at wd
    exact k _ _ v Z1 H1 fp e2 zl wd rp (ok.mono zl)
  · exact sem fx Z H ρ σ [] w _ e1 (ok.xc fun x2 ρ2 q => by cases q; rfl) Q fun d ρ1 z => nomatch z
theorem sT_run {t : TT} {f : F Bool} {h : Bool → FS} {o : Out} {D' : Ends} {Q : Bool → Hp → Prop} (sem : SemT g t f) (w : Wd g.K fx Z H ρ σ []) (e : FS.of f h n ρ = some o) (ok : OkS g fx Z o D')
    (k : ∀ d ρ1 Z1 H1, h d n ρ1 = some o → Mv g fx Z H ρ1 σ [] Z1 H1 → OkS g fx Z1 o D' → Q d H1) : t σ H Q := by
  rcases of_cases e with ⟨a, ρ', e1, e2⟩ | ⟨x, ρ', e1, rfl⟩
  · refine sem fx Z H ρ σ [] w _ e1 (fun _ _ z => nomatch z) Q fun d ρ1 z Z1 H1 m => ?_
    cases z
    exact k _ _ Z1 H1 e2 m (ok.mono m.z)
  · exact sem fx Z H ρ σ [] w _ e1 (ok.xc fun x2 ρ2 q => by cases q; rfl) Q fun d ρ1 z => nomatch z

/-! ### blocks -/
def fNx : FS := fun _ ρ => some (.nx ρ)
def fSeq (a b : FS) : FS := fun n ρ => match a n ρ with
  | some (.nx ρ') => b n ρ'
  | o => o
theorem sss_nil : SSs g [] fNx := ⟨tNext, fun _ _ => pss_nil, fun fx Z H ρ σ w n o e D ok => by cases e; exact ok Z H σ (.refl _) w⟩
theorem sss_one (h : SS g st f) : SSs g [st] f := by
  obtain ⟨t, p, s⟩ := h
  exact ⟨t, fun X is => pss_one (p X is), s⟩
theorem sss_cons (h1 : SS g st f1) (h2 : SSs g sts f2) : SSs g (st :: sts) (fSeq f1 f2) := by
  obtain ⟨t, p, s⟩ := h1
  obtain ⟨u, q, s2⟩ := h2
  refine ⟨tSeq t u, fun X is => pss_cons (p X is) (q X is), fun fx Z H ρ σ w n o e D ok => ?_⟩
  show t { D with nx := u D } σ H
  unfold fSeq at e
  cases q1 : f1 n ρ with
  | none => rw [q1] at e; cases e
  | some o1 =>
    rw [q1] at e
    refine s fx Z H ρ σ w n o1 q1 _ ?_
    cases o1 with
    | nx ρ' => exact fun Z2 H2 σ2 z2 w2 => s2 fx Z2 H2 ρ' σ2 w2 n o e D (ok.mono z2)
    | bk ρ' => cases e; exact ok
    | ct ρ' => cases e; exact ok
    | rt w ρ' => cases e; exact ok
    | ex x ρ' => cases e; exact ok
/-- what is never come to -/
def fNo : FS := fun _ _ => none
theorem ss_no : SS g st fNo := ⟨tNever, fun _ _ => ps_never, fun fx Z H ρ σ w n o e => nomatch e⟩
theorem sss_no : SSs g sts fNo := ⟨tNever, fun _ _ => pss_never, fun fx Z H ρ σ w n o e => nomatch e⟩
theorem ss_pass : SS g (.Pass pos) fNx := ⟨tNext, fun _ _ => ps_pass, fun fx Z H ρ σ w n o e D ok => by cases e; exact ok Z H σ (.refl _) w⟩
def fBk : FS := fun _ ρ => some (.bk ρ)
def fCt : FS := fun _ ρ => some (.ct ρ)
theorem ss_break : SS g (.Break pos) fBk := ⟨tBreak, fun _ _ => ps_break, fun fx Z H ρ σ w n o e D ok => by cases e; exact ok Z H σ (.refl _) w⟩
theorem ss_cont : SS g (.Continue pos) fCt := ⟨tCont, fun _ _ => ps_continue, fun fx Z H ρ σ w n o e D ok => by cases e; exact ok Z H σ (.refl _) w⟩
def fIfS (c : F Bool) (a b : FS) : FS := FS.of c fun k => if k then a else b
theorem ss_if {gc : F Bool} {t e : List Stmt} (hc : ST g c gc) (ha : SSs g t f1) (hb : SSs g e f2) : SS g (.If c t e pos) (fIfS gc f1 f2) := by
  obtain ⟨tc, pc, sc⟩ := hc
  obtain ⟨ta, pa, sa⟩ := ha
  obtain ⟨tb, pb, sb⟩ := hb
  refine ⟨tIfS tc ta tb, fun X is => ps_if (pc X is) (pa X is) (pb X is), fun fx Z H ρ σ w n o e D ok => ?_⟩
  show tc σ H fun b H1 => if b = true then ta D σ H1 else tb D σ H1
  refine sT_run sc w e ok fun k ρ1 Z1 H1 e1 m1 ok1 => ?_
  cases k with
  | true =>
    rw [if_pos rfl] at e1 ⊢
    exact sa fx Z1 H1 ρ1 σ m1.wd n o e1 D ok1
  | false =>
    rw [if_neg Bool.false_ne_true] at e1 ⊢
    exact sb fx Z1 H1 ρ1 σ m1.wd n o e1 D ok1
/-! ### return, an expression alone, name = e -/
def fRet (f : F W) : FS := FS.of f fun w _ ρ => some (.rt w ρ)
theorem ss_ret {f : F W} (h : SW g e f) : SS g (.Return (some e) pos) (fRet f) := by
  obtain ⟨t, p, s⟩ := h
  refine ⟨tRet t, fun X is => ps_ret (p X is), fun fx Z H ρ σ w n o e D ok => ?_⟩
  refine sW_run s w e ok fun ww ρ1 v Z1 H1 fp e1 z1 w1 r1 ok1 => ?_
  cases e1
  exact ok1 v Z1 H1 σ fp (.refl _) w1 r1
def fRetN : FS := fun _ ρ => some (.rt (.va .non) ρ)
theorem ss_retN : SS g (.Return none pos) fRetN := ⟨tRetN, fun _ _ => ps_retN, fun fx Z H ρ σ w n o e D ok => by cases e; exact ok .non Z H σ [] (.refl _) w (.va .non)⟩
def fDrop (f : F W) : FS := FS.of f fun _ _ ρ => some (.nx ρ)
theorem ss_expr {f : F W} (h : SW g e f) (hs : ∀ env, swapsWith e none pos.line env = pure false := by intro _; rfl) : SS g (.Expr e pos) (fDrop f) := by
  obtain ⟨t, p, s⟩ := h
  refine ⟨tDrop t, fun X is => ps_expr (p X is) (hs _), fun fx Z H ρ σ w n o e D ok => ?_⟩
  show t σ H fun _ H1 => D.nx σ H1
  refine sW_run s w e ok fun ww ρ1 v Z1 H1 fp e1 z1 w1 r1 ok1 => ?_
  cases e1
  rw [← List.append_nil fp] at w1
  exact ok1 Z1 H1 σ (.refl _) w1.drop
def fSet (i : Nat) (f : F W) : FS := FS.of f fun w _ ρ => if i < ρ.length then some (.nx (ρ.set i (.so false w))) else none
theorem sem_set {i : Nat} {te : TE} {f : F W} (s : SemW g te f) : SemS g (tAsg te (gName i)) (fSet i f) := fun fx Z H ρ σ w n o e D ok => by
  show te σ H fun x H1 => D.nx (σ.set i (some x)) H1
  refine sW_run s w e ok fun ww ρ1 v Z1 H1 fp e1 z1 w1 r1 ok1 => ?_
  split at e1
  · rename_i hi
    cases e1
    rw [← List.append_nil fp] at w1
    exact ok1 Z1 H1 _ (.refl _) (w1.put r1 hi)
  · cases e1
theorem ss_set {i : Nat} {f : F W} {pos' : Pos} (hN : g.N[i]? = some x) (hx : Loc g.sc x) (h : SW g e f) (hl : ∀ X, Is g X → X.fn x = true ∨ X.env.scope.names.lookup x = some .local) (hs : ∀ env, swapsWith e (some (.Name x pos')) pos.line env = pure false := by intro _; rfl) :
    SS g (.Assign [.Name x pos'] e pos) (fSet i f) := by
  obtain ⟨t, p, s⟩ := h
  exact ⟨_, fun X is => ps_set (by rw [is.N]; exact is.nd) (by rw [is.N]; exact hN) (by rw [is.sc]; exact hx) (p X is) (hs _) (hl X is), sem_set s⟩
/-! ### for, while -/
def forL (tg : D → Rho → Option Rho) (body : FS) : List D → FS
  | [], _, ρ => some (.nx ρ)
  | d :: ds, n, ρ => match tg d ρ with
    | none => none
    | some ρ1 => match body n ρ1 with
      | some (.nx ρ2) => forL tg body ds n ρ2
      | some (.ct ρ2) => forL tg body ds n ρ2
      | some (.bk ρ2) => some (.nx ρ2)
      | o => o
def fFor (fi : F (List D)) (tg : D → Rho → Option Rho) (body : FS) : FS := FS.of fi fun ds => forL tg body ds
theorem ss_for {iter : Expr} {body : List Stmt} {fi : F (List D)} {ftg : D → Rho → Option Rho} {js : List Nat} (hp : g.top = true) (hi : SI g tg iter fi) (hg : SG g tg ftg js) (hb : SSs g body f) (hs : ∀ env x, foldedSetIterable iter env x = pure x := by intro _ _; rfl) :
    SS g (.For tg iter body [] pos) (fFor fi ftg f) := by
  obtain ⟨wi, pi, si⟩ := hi
  obtain ⟨tgt, pg, sg⟩ := hg
  obtain ⟨tb, pb, sb⟩ := hb
  refine ⟨tFor wi tgt tb, fun X is => ps_for (is.po hp) is.calm (pi X is) (pg X is) (pb X is) (hs _), fun fx Z H ρ σ w n o e D ok => ?_⟩
  show wi σ H fun J H1 => ∃ W : Nat → Nat → L2.St → Hp → Prop, (∃ m, W 0 m σ H1) ∧ ∀ i m σ H, W i m σ H →
    (J.stop i H ∧ D.nx σ H) ∨ (J.go i H ∧ ∃ N : L2.St → Hp → Prop, (∀ σ' H', N σ' H' → ∃ m', m' < m ∧ W (i + 1) m' σ' H') ∧ ∀ x H', J.yld i H x H' → tgt x σ H' fun σ2 H2 => tb { D with nx := N, ct := N, bk := D.nx } σ2 H2)
  rcases of_cases e with ⟨ds, ρ1, e1, e2⟩ | ⟨xx, ρ', e1, rfl⟩
  case inr => exact si fx Z H ρ σ [] w _ e1 (ok.xc fun x2 ρ2 q => by cases q; rfl) _ fun d ρ1 z => nomatch z
  refine si fx Z H ρ σ [] w _ e1 (fun _ _ z => nomatch z) _ fun ds' ρ1' z J Z1 H1 m1 wk => ?_
  cases z
  refine ⟨fun i m σ' H' => m = ds.length - i ∧ i ≤ ds.length ∧ ∃ Z' ρ', forL ftg f (ds.drop i) n ρ' = some o ∧ Zle Z1 Z' ∧ Wd g.K fx Z' H' ρ' σ' [], ⟨ds.length, by simp, Nat.zero_le _, Z1, ρ1, e2, .refl _, m1.wd⟩, ?_⟩
  rintro i m σ' H' ⟨rfl, hi, Z', ρ', hl, z1, w'⟩
  by_cases hlt : i < ds.length
  case neg =>
    have ei : i = ds.length := by omega
    rw [ei, List.drop_length] at hl
    cases hl
    exact .inl ⟨wk.stop i Z' H' z1 w'.zh (by omega), ok Z' H' σ' (m1.z.trans z1) w'⟩
  case pos =>
    have hd : ds[i]? = some ds[i] := List.getElem?_eq_getElem hlt
    refine .inr ⟨wk.go i _ hd Z' H' z1 w'.zh, fun σ'' H'' => ds.length - (i + 1) < ds.length - i ∧ ∃ Z' ρ', forL ftg f (ds.drop (i + 1)) n ρ' = some o ∧ Zle Z1 Z' ∧ Wd g.K fx Z' H'' ρ' σ'' [], fun σ'' H'' ⟨h1, h2⟩ => ⟨_, h1, rfl, hlt, h2⟩, fun v H2 y => ?_⟩
    obtain ⟨Z2, g2, rv⟩ := wk.yld i _ hd Z' H' v H2 z1 w'.zh y
    rw [List.drop_eq_getElem_cons hlt] at hl
    unfold forL at hl
    split at hl
    case h_1 => cases hl
    rename_i ρt ht
    refine sg fx Z2 H2 ρ' σ' [] _ v ρt (w'.gr g2) rv ht _ fun σ2 w3 _ _ => ?_
    have zz := (z1.trans g2.z)
    have ok2 : OkS g fx Z2 o D := ok.mono (m1.z.trans zz)
    split at hl
    · rename_i ρ2 hb
      exact sb fx Z2 H2 ρt σ2 w3 n _ hb _ fun Z3 H3 σ3 z3 w4 => ⟨by omega, Z3, ρ2, hl, zz.trans z3, w4⟩
    · rename_i ρ2 hb
      exact sb fx Z2 H2 ρt σ2 w3 n _ hb _ fun Z3 H3 σ3 z3 w4 => ⟨by omega, Z3, ρ2, hl, zz.trans z3, w4⟩
    · rename_i ρ2 hb
      cases hl
      exact sb fx Z2 H2 ρt σ2 w3 n _ hb _ fun Z3 H3 σ3 z3 w4 => ok2 Z3 H3 σ3 z3 w4
    · rename_i h1 h2 h3
      cases o with
      | nx ρx => exact (h1 ρx hl).elim
      | bk ρx => exact (h3 ρx hl).elim
      | ct ρx => exact (h2 ρx hl).elim
      | rt w ρx => exact sb fx Z2 H2 ρt σ2 w3 n _ hl _ ok2
      | ex x ρx => exact sb fx Z2 H2 ρt σ2 w3 n _ hl _ ok2
def whileF (c : F Bool) (body : FS) : FS
  | 0, _ => none
  | n + 1, ρ => match c ρ with
    | some (.ok true ρ1) => (match body n ρ1 with
      | some (.nx ρ2) => whileF c body n ρ2
      | some (.ct ρ2) => whileF c body n ρ2
      | some (.bk ρ2) => some (.nx ρ2)
      | o => o)
    | some (.ok false ρ1) => some (.nx ρ1)
    | some (.ex e ρ1) => some (.ex e ρ1)
    | none => none
theorem ss_while {body : List Stmt} {gc : F Bool} (hp : g.top = true) (hc : ST g c gc) (hb : SSs g body f) : SS g (.While c body [] pos) (whileF gc f) := by
  obtain ⟨tc, pc, sc⟩ := hc
  obtain ⟨tb, pb, sb⟩ := hb
  refine ⟨tWhile tc tb, fun X is => ps_while (is.po hp) (pc X is) (pb X is), fun fx Z H ρ σ w n o e D ok => ?_⟩
  refine ⟨fun m σ' H' => ∃ Z' ρ', whileF gc f m ρ' = some o ∧ Zle Z Z' ∧ Wd g.K fx Z' H' ρ' σ' [], ⟨n, Z, ρ, e, .refl _, w⟩, ?_⟩
  rintro m σ' H' ⟨Z', ρ', hl, z1, w'⟩
  cases m with
  | zero => cases hl
  | succ m =>
  have ok1 := ok.mono z1
  unfold whileF at hl
  split at hl
  · rename_i ρ1 hc
    refine sc fx Z' H' ρ' σ' [] w' _ hc (fun _ _ z => nomatch z) _ fun b ρb z Z2 H2 m2 => ?_
    cases z
    rw [if_pos rfl]
    have ok2 := ok1.mono m2.z
    refine ⟨fun σ'' H'' => ∃ Z' ρ', whileF gc f m ρ' = some o ∧ Zle Z Z' ∧ Wd g.K fx Z' H'' ρ' σ'' [], fun σ'' H'' h => ⟨m, Nat.lt_succ_self m, h⟩, ?_⟩
    split at hl
    · rename_i ρ2 hb
      exact sb fx Z2 H2 ρ1 σ' m2.wd m _ hb _ fun Z3 H3 σ3 z3 w4 => ⟨Z3, ρ2, hl, (z1.trans m2.z).trans z3, w4⟩
    · rename_i ρ2 hb
      exact sb fx Z2 H2 ρ1 σ' m2.wd m _ hb _ fun Z3 H3 σ3 z3 w4 => ⟨Z3, ρ2, hl, (z1.trans m2.z).trans z3, w4⟩
    · rename_i ρ2 hb
      cases hl
      exact sb fx Z2 H2 ρ1 σ' m2.wd m _ hb _ fun Z3 H3 σ3 z3 w4 => ok2 Z3 H3 σ3 z3 w4
    · rename_i h1 h2 h3
      cases o with
      | nx ρx => exact (h1 ρx hl).elim
      | bk ρx => exact (h3 ρx hl).elim
      | ct ρx => exact (h2 ρx hl).elim
      | rt w ρx => exact sb fx Z2 H2 ρ1 σ' m2.wd m _ hl _ ok2
      | ex x ρx => exact sb fx Z2 H2 ρ1 σ' m2.wd m _ hl _ ok2
  · rename_i ρ1 hc
    refine sc fx Z' H' ρ' σ' [] w' _ hc (fun _ _ z => nomatch z) _ fun b ρb z Z2 H2 m2 => ?_
    cases z
    rw [if_neg Bool.false_ne_true]
    cases hl
    exact ok1 Z2 H2 σ' m2.z m2.wd
  · rename_i x ρ1 hc
    cases hl
    exact sc fx Z' H' ρ' σ' [] w' _ hc (ok1.xc fun x2 ρ2 q => by cases q; rfl) _ fun b ρb z => nomatch z
  · cases hl
end
end FL
set_option Elab.async false
set_option linter.all false
set_option maxRecDepth 100000
set_option maxHeartbeats 1000000
/-! FL10: own things: read, moved, looked at, changed -/
namespace FL
open PySem PySem.Spec PyProof.Rows L2

section
variable {K : PySem.W.Frag} {fx : Fx} {Z Z' H H' : Hp} {ps : List (Option V)} {ρ : Rho} {σ : L2.St} {fp ex : List Addr}
theorem Slots.out : ∀ {ps : List (Option V)} {ρ : Rho} {σ : L2.St} {fp : List Addr} {i : Nat} {io : Bool} {w : W}, Slots K fx Z H ps ρ σ fp → ρ[i]? = some (.so io w) →
    ∃ v l g r, σ[i]? = some (some v) ∧ RepW K Z H v w g ∧ fp = l ++ g ++ r ∧ (∀ a ∈ g, fx.H0 a = none ∨ (io = true ∧ a ∈ fx.F0)) ∧ Slots K fx Z H ps (ρ.set i .no) σ (l ++ r)
  | _, _, _, _, i, _, _, .nil, e => by simp at e
  | _, _, _, _, 0, _, _, .no r, e => by simp at e
  | _, _, _, _, i + 1, io, w, .no r, e => by
    obtain ⟨v, l, g, r', h1, h2, h3, h4, h6⟩ := Slots.out (i := i) (io := io) (w := w) r (by simpa using e)
    exact ⟨v, l, g, r', by simpa using h1, h2, h3, h4, .no h6⟩
  | _, _, _, _, 0, _, _, .tab t r, e => by simp at e
  | _, _, _, _, i + 1, io, w, .tab t r, e => by
    obtain ⟨v, l, g, r', h1, h2, h3, h4, h6⟩ := Slots.out (i := i) (io := io) (w := w) r (by simpa using e)
    exact ⟨v, l, g, r', by simpa using h1, h2, h3, h4, .tab t h6⟩
  | _, _, _, _, 0, _, _, .so (f := f0) (fp := fp0) h o p r, e => by
    simp at e
    obtain ⟨e1, e2⟩ := e
    subst e1 e2
    exact ⟨_, [], f0, fp0, rfl, h, rfl, o, .no r⟩
  | _, _, _, _, i + 1, io, w, .so (f := f0) h o p r, e => by
    obtain ⟨v, l, g, r', h1, h2, h3, h4, h6⟩ := Slots.out (i := i) (io := io) (w := w) r (by simpa using e)
    refine ⟨v, f0 ++ l, g, r', by simpa using h1, h2, by rw [h3]; simp, h4, ?_⟩
    have := Slots.so h o p h6
    simpa [List.append_assoc] using this
/-- a slot's thing becomes data -/
theorem Wd.frzSlot {i : Nat} {w : W} (x : Wd K fx Z H ρ σ ex) (e : ρ[i]? = some (.so false w)) : ∃ v Z', σ[i]? = some (some v) ∧ Zle Z Z' ∧ Wd K fx Z' H (ρ.set i (.so false (.va (frz w)))) σ ex ∧ Rep K Z' v (frz w) := by
  obtain ⟨fp, h⟩ := x
  obtain ⟨v, l, g, r, h1, h2, h3, h4, h5, h6⟩ := h.sl.split e
  have nd := h.nd
  rw [h3] at nd
  have mg : ∀ a ∈ g, a ∈ fp ++ ex := fun a ha => by rw [h3]; simp only [List.mem_append]; exact .inl (.inl (.inr ha))
  have zl : Zle Z (zAdd Z H g) := fun a o q => by
    by_cases ha : a ∈ g
    · rw [h.zn a (mg a ha)] at q; cases q
    · rw [zAdd_out ha]; exact q
  have rp := h2.frz zl fun a ha => zAdd_in ha
  have out : ∀ a, a ∈ l ++ [] ++ r ++ ex → a ∉ g := fun a ha hx => by
    simp only [List.nodup_append, List.mem_append, List.append_nil] at nd ha
    grind
  have sub : ∀ a, a ∈ l ++ [] ++ r ++ ex → a ∈ fp ++ ex := fun a ha => by
    rw [h3]
    simp only [List.mem_append, List.append_nil] at ha ⊢
    grind
  refine ⟨v, zAdd Z H g, h1, zl, ⟨l ++ [] ++ r, ⟨h6 _ H (.va (frz w)) [] zl (fun _ _ => rfl) (.va rp) (fun a ha => by simp at ha), ?_, fun a ha => ?_, fun a ha => h.th a (sub a ha), fun a ha vs => h.nt a (sub a ha) vs, h.xn, fun a o q => ?_, h.kp, fun a o q => ?_, h.dm, h.tb⟩⟩, rp⟩
  · simp only [List.nodup_append, List.mem_append, List.append_nil] at nd ⊢
    grind
  · rw [zAdd_out (out a ha)]
    exact h.zn a (sub a ha)
  · by_cases ha : a ∈ g
    · rw [zAdd_in ha] at q; exact q
    · rw [zAdd_out ha] at q; exact h.zh a o q
  · by_cases ha : a ∈ g
    · rcases h4 a ha with y | ⟨y, _⟩
      · exact .inr (.inl y)
      · cases y
    · rw [zAdd_out ha] at q; exact h.zf a o q
/-- a slot's thing is taken out of it -/
theorem Wd.takeSlot {i : Nat} {w : W} (x : Wd K fx Z H ρ σ ex) (e : ρ[i]? = some (.so false w)) : ∃ v f, σ[i]? = some (some v) ∧ RepW K Z H v w f ∧ Wd K fx Z H (ρ.set i .no) σ (f ++ ex) := by
  obtain ⟨fp, h⟩ := x
  obtain ⟨v, l, g, r, h1, h2, h3, h4, h6⟩ := h.sl.out e
  have nd := h.nd
  rw [h3] at nd
  have sub : ∀ a, a ∈ (l ++ r) ++ (g ++ ex) → a ∈ fp ++ ex := fun a ha => by
    rw [h3]
    simp only [List.mem_append] at ha ⊢
    grind
  refine ⟨v, g, h1, h2, ⟨l ++ r, ⟨h6, ?_, fun a ha => h.zn a (sub a ha), fun a ha => h.th a (sub a ha), fun a ha vs => h.nt a (sub a ha) vs, fun a ha => ?_, h.zh, h.kp, h.zf, h.dm, h.tb⟩⟩⟩
  · simp only [List.nodup_append, List.mem_append] at nd ⊢
    grind
  · rcases List.mem_append.mp ha with ha | ha
    · rcases h4 a ha with y | ⟨y, _⟩
      · exact y
      · cases y
    · exact h.xn a ha
theorem Wd.perm {ex' : List Addr} (x : Wd K fx Z H ρ σ ex) (p : ex.Perm ex') : Wd K fx Z H ρ σ ex' := by
  obtain ⟨fp, h⟩ := x
  have m : ∀ a, a ∈ fp ++ ex' → a ∈ fp ++ ex := fun a ha => by
    simp only [List.mem_append] at ha ⊢
    exact ha.imp id p.mem_iff.mpr
  exact ⟨fp, ⟨h.sl, (p.append_left fp).nodup_iff.mp h.nd, fun a ha => h.zn a (m a ha), fun a ha => h.th a (m a ha), fun a ha vs => h.nt a (m a ha) vs, fun a ha => h.xn a (p.mem_iff.mpr ha), h.zh, h.kp, h.zf, h.dm, h.tb⟩⟩

/-! ### looked at as if all were data -/
def frzSl : Sl → Sl
  | .no => .no
  | .tab _ _ => .no
  | .so _ w => .so false (.va (frz w))
theorem Slots.peek (z : Zle Z H) (qs : List (Option V)) : ∀ {ps : List (Option V)} {ρ : Rho} {σ : L2.St} {fp : List Addr}, Slots K fx Z H ps ρ σ fp → Slots K ⟨H, H, [], qs, []⟩ H H ps (ρ.map frzSl) σ []
  | _, _, _, _, .nil => .nil
  | _, _, _, _, .no r => .no (Slots.peek z qs r)
  | _, _, _, _, .tab _ r => .no (Slots.peek z qs r)
  | _, _, _, _, .so h o p r => .so (f := []) (fp := []) (.va (h.frz z fun _ _ => rfl)) (fun a ha => by simp at ha) (fun q => by cases q) (Slots.peek z qs r)
theorem Wd.peek (x : Wd K fx Z H ρ σ ex) : Wd K ⟨H, H, [], fx.ps, []⟩ H H (ρ.map frzSl) σ [] := by
  obtain ⟨fp, h⟩ := x
  exact ⟨[], ⟨h.sl.peek h.zh _, .nil, fun a ha => by simp at ha, fun a ha => by simp at ha, fun a ha => by simp at ha, fun a ha => by simp at ha, .refl _, fun a o e _ => e, fun a o e => .inl e, fun a n => n, fun _ h => by cases h⟩⟩
theorem Wd.unpeek {ρ' : Rho} {σ' : L2.St} {ps : List (Option V)} {ex' : List Addr} (z : Zle Z H) (x : Wd K ⟨H, H, [], ps, []⟩ Z' H' ρ' σ' ex') : Gr Z H Z H' := by
  obtain ⟨fp, h⟩ := x
  have k : ∀ a o, H a = some o → H' a = some o := fun a o e => h.kp a o e (by simp)
  exact ⟨.refl _, k, fun a o e => k a o (z a o e), fun a o e => .inl e⟩
end
def flat0 : D → Bool
  | .non | .bl _ | .int _ | .str _ | .ty _ | .cls _ => true
  | _ => false
theorem Rep.flat0 {K : PySem.W.Frag} {Z Z' : Hp} {v : V} {d : D} (r : Rep K Z v d) (h : FL.flat0 d = true) : Rep K Z' v d := by
  cases r with
  | non => exact .non
  | bl b => exact .bl b
  | int b => exact .int b
  | str b => exact .str b
  | ty b => exact .ty b
  | cls b => exact .cls b
  | _ => cases h
section
variable {g : Gm} {fx : Fx} {Z Z' H H' : Hp} {ρ ρ1 : Rho} {σ : L2.St} {ex : List Addr} {α β : Type}
variable {e a b c tg : Expr} {fa fb fc : F D} {pos p : Pos} {es : List Expr} {fs : F (List D)} {ga gb : F Bool} {rest : List Expr} {x : Str} {k n : Nat} {st : Stmt} {sts : List Stmt} {f f1 f2 : FS}
def fVarF (i : Nat) : F D := fun ρ => match ρ[i]? with
  | some (.so false w) => some (.ok (frz w) (ρ.set i (.so false (.va (frz w)))))
  | some (.so true (.va d)) => some (.ok d ρ)
  | _ => none
theorem se_varF (i : Nat) {x : Str} (hN : g.N[i]? = some x) (hv : Vis g.sc x) (hd : (x == ("__debug__" : Str)) = false := by decide) (hcd : (x == ("__classdict__" : Str)) = false := by decide) : SE g (.Name x pos) (fVarF i) := by
  refine ⟨tVar i, fun X is => pe_var (by rw [is.N]; exact hN) (is.vis hv) hd hcd, fun fx Z H ρ σ ex w r e x Q k => ?_⟩
  unfold fVarF at e
  split at e
  · rename_i w' q
    cases e
    obtain ⟨v, Z1, h1, z1, w1, rv⟩ := w.frzSlot q
    exact ⟨v, h1, k _ _ rfl v Z1 H ⟨z1, w1, fun _ _ => rfl⟩ rv⟩
  · rename_i d q
    cases e
    obtain ⟨v, h1, h2⟩ := w.get q
    exact ⟨v, h1, k d ρ rfl v Z H (.refl w) h2⟩
  · cases e
/-- the slot's own thing is handed on -/
def fMov (i : Nat) : F W := fun ρ => match ρ[i]? with
  | some (.so _ (.va d)) => some (.ok (.va d) ρ)
  | some (.so false w) => some (.ok w (ρ.set i .no))
  | _ => none
theorem sw_mov (i : Nat) {x : Str} (hN : g.N[i]? = some x) (hv : Vis g.sc x) (hd : (x == ("__debug__" : Str)) = false := by decide) (hcd : (x == ("__classdict__" : Str)) = false := by decide) : SW g (.Name x pos) (fMov i) := by
  refine ⟨tVar i, fun X is => pe_var (by rw [is.N]; exact hN) (is.vis hv) hd hcd, fun fx Z H ρ σ ex w r e x Q k => ?_⟩
  unfold fMov at e
  split at e
  · rename_i d q
    cases e
    obtain ⟨v, h1, h2⟩ := w.get q
    exact ⟨v, h1, k _ ρ rfl v Z H [] (.refl _) w (fun _ _ => rfl) (.va h2)⟩
  · rename_i w' _ q
    cases e
    obtain ⟨v, f, h1, h2, h3⟩ := w.takeSlot q
    exact ⟨v, h1, k _ _ rfl v Z H f (.refl _) h3 (fun _ _ => rfl) h2⟩
  · cases e
def fPeek (f : F D) : F D := fun ρ => match f (ρ.map frzSl) with
  | some (.ok d _) => if flat0 d then some (.ok d ρ) else none
  | _ => none
theorem se_peek (h : SE g e fa) : SE g e (fPeek fa) := by
  obtain ⟨t, p, s⟩ := h
  refine ⟨t, p, fun fx Z H ρ σ ex w r e x Q k => ?_⟩
  unfold fPeek at e
  split at e
  · rename_i d ρ' q
    split at e
    · rename_i hf
      cases e
      refine s _ H H _ σ [] w.peek _ q (fun _ _ z => nomatch z) Q fun d' ρ1 z v Z1 H1 m rp => ?_
      cases z
      exact k _ _ rfl v Z H1 ((Mv.refl w).gr (m.wd.unpeek w.zh)) (rp.flat0 hf)
    · cases e
  · cases e
def gPeek (f : F Bool) : F Bool := fun ρ => match f (ρ.map frzSl) with
  | some (.ok d _) => some (.ok d ρ)
  | _ => none
theorem st_peek (h : ST g e ga) : ST g e (gPeek ga) := by
  obtain ⟨t, p, s⟩ := h
  refine ⟨t, p, fun fx Z H ρ σ ex w r e x Q k => ?_⟩
  unfold gPeek at e
  split at e
  · rename_i d ρ' q
    cases e
    refine s _ H H _ σ [] w.peek _ q (fun _ _ z => nomatch z) Q fun d' ρ1 z Z1 H1 m => ?_
    cases z
    exact k _ _ rfl Z H1 ((Mv.refl w).gr (m.wd.unpeek w.zh))
  · cases e

/-! ### methods of a slot's own thing -/
def OwnOp (K : PySem.W.Frag) (r : V → List V → Hp → VK → Prop) (o : W → List D → Option (W × W)) : Prop :=
  ∀ Z H v0 w0 f0 vs ds w s, Zle Z H → RepW K Z H v0 w0 f0 → (∀ a ∈ f0, Z a = none) → Reps K Z vs ds → o w0 ds = some (w, s) →
    ∀ Q : VK, (∀ v Z' H' f' fn, Ch Z H f0 Z' H' f' fn → RepW K Z' H' v0 s f' → RepW K Z' H' v w fn → Q v H') → r v0 vs H Q
def OwnTy (K : PySem.W.Frag) (T : String) (ok : W → Bool) : Prop := ∀ Z H v w f, Zle Z H → RepW K Z H v w f → ok w = true → tyV K T v H
def fOwn (i : Nat) (ok : W → Bool) (o : W → List D → Option (W × W)) (fs : F (List D)) : F W := fun ρ => match ρ[i]? with
  | some (.so _ w) => if ok w then (fs.bind fun ds ρ1 => match ρ1[i]? with
    | some (.so io w0) => (o w0 ds).map fun p => .ok p.1 (ρ1.set i (.so io p.2))
    | _ => none) ρ else none
  | _ => none
theorem sem_own {i : Nat} {T : String} {r : V → List V → Hp → VK → Prop} {ok : W → Bool} {o : W → List D → Option (W × W)} {t : TA} (hr : OwnOp g.K r o) (ht : OwnTy g.K T ok) (s : SemA g t fs) : SemW g (tBM g.K T r (tVar i) t) (fOwn i ok o fs) := fun fx Z H ρ σ ex w rr e x Q k => by
  show ∃ v, σ[i]? = some (some v) ∧ tyV g.K T v H ∧ t σ H fun vs H1 => r v vs H1 Q
  unfold fOwn at e
  split at e
  case h_2 => cases e
  rename_i io0 w00 q0
  split at e
  case isFalse => cases e
  rename_i hok
  obtain ⟨v0, f00, h0, hr0, _⟩ := w.focus q0
  refine ⟨v0, h0, ht Z H v0 w00 f00 w.zh hr0 hok, ?_⟩
  refine sa_run s w e x fun ds ρ1 vs Z1 H1 e1 m1 r1 x1 => ?_
  split at e1
  case h_2 => cases e1
  rename_i io w0 q1
  obtain ⟨v, f0, g1, g2, g3, g4, _, _, g5⟩ := m1.wd.focus q1
  have ev : v = v0 := by
    rw [h0] at g1
    exact (Option.some.inj (Option.some.inj g1)).symm
  subst ev
  cases ho : o w0 ds with
  | none => rw [ho] at e1; cases e1
  | some p =>
    obtain ⟨w', s'⟩ := p
    rw [ho] at e1
    cases e1
    refine hr Z1 H1 v w0 f0 vs ds w' s' m1.zh g2 g4 r1 ho Q fun u Z2 H2 f' fn c rs rw' => ?_
    obtain ⟨w2, f2⟩ := g5 Z2 H2 s' f' fn c rs
    exact k _ _ rfl u Z2 H2 fn (m1.z.trans c.z) w2 (fun a ha => (f2 a ha).trans (m1.fr a ha)) rw'
theorem sw_meth {i : Nat} {y m : Str} {T id : String} {py apos cpos : Pos} {r : V → List V → Hp → VK → Prop} {ok : W → Bool} {o : W → List D → Option (W × W)} (hr : OwnOp g.K r o) (ht : OwnTy g.K T ok) (hp : PlainAttrs T) (hs : Slot T m id) (hty : typeOf (.builtin id) = pure (.type "method_descriptor")) (hm : ∀ X, Is g X → MtR X id r) (hN : g.N[i]? = some y) (hv : Vis g.sc y) (ha : SA g (e :: es) fs)
    (hd : (y == ("__debug__" : Str)) = false := by decide) (hcd : (y == ("__classdict__" : Str)) = false := by decide)
    (h1 : ∀ env, attributeBase (.Name y py) m env (eval (.Name y py) env) = eval (.Name y py) env := by intro _; rfl)
    (h2 : ∀ env, (((backTo cpos (starEach (e :: es) env)).all fun x => !x.1) && (backToKw cpos (keywordEach [] env)).all (fun x => x.1.isSome) && decide ((e :: es).length + ([] : List Keyword).length + (if ([] : List Keyword).isEmpty = true then 0 else 1) < 30)) = true := by intro _; rfl)
    (h3 : (apos.endLine == cpos.line) = true := by rfl) (h4 : ∀ env, starEach (e :: es) env = (false, eval e env) :: starEach es env := by intro _; rfl) (h5 : ∀ env, ((backTo cpos (starEach es env)).any (·.1)) = false := by intro _; rfl) :
    SW g (.Call (.Attribute (.Name y py) m apos) (e :: es) [] cpos) (fOwn i ok o fs) := by
  obtain ⟨t, pt, s⟩ := ha
  exact ⟨tBM g.K T r (tVar i) t, fun X is => by
    rw [← is.K]
    exact pe_bm hp hs hty (hm X is) (pe_var (by rw [is.N]; exact hN) (is.vis hv) hd hcd) (pt X is) (h1 _) (h2 _) h3 (h4 _) (h5 _), sem_own hr ht s⟩
theorem sw_meth0 {i : Nat} {y m : Str} {T id : String} {py apos cpos : Pos} {r : V → List V → Hp → VK → Prop} {ok : W → Bool} {o : W → List D → Option (W × W)} (hr : OwnOp g.K r o) (ht : OwnTy g.K T ok) (hp : PlainAttrs T) (hs : Slot T m id) (hty : typeOf (.builtin id) = pure (.type "method_descriptor")) (hm : ∀ X, Is g X → MtR X id r) (hN : g.N[i]? = some y) (hv : Vis g.sc y)
    (hd : (y == ("__debug__" : Str)) = false := by decide) (hcd : (y == ("__classdict__" : Str)) = false := by decide)
    (h1 : ∀ env, attributeBase (.Name y py) m env (eval (.Name y py) env) = eval (.Name y py) env := by intro _; rfl) (h3 : (apos.endLine == cpos.line) = true := by rfl) :
    SW g (.Call (.Attribute (.Name y py) m apos) [] [] cpos) (fOwn i ok o aNil) := by
  refine ⟨tBM g.K T r (tVar i) tNil, fun X is => ?_, sem_own hr ht fun fx Z H ρ σ ex w r e x Q k => by cases e; exact k [] ρ rfl [] Z H (.refl w) .nil⟩
  have := pe_bm0 (T := T) hp hs hty (hm X is) (pe_var (X := X) (pos := py) (by rw [is.N]; exact hN) (is.vis hv) hd hcd) (h1 _) h3
  rw [is.K] at this
  exact this

/-! ### of a list -/
def isLs : W → Bool
  | .ls _ => true
  | _ => false
theorem ty_ls : OwnTy g.K "list" isLs := fun Z H v w f z r h => by
  cases r with
  | ls h1 h2 => exact .inl ⟨rfl, _, .of h1⟩
  | _ => cases h
def oAppend : W → List D → Option (W × W)
  | .ls xs, [d] => if xs.length < sizeLine then some (.va .non, .ls (xs ++ [d])) else none
  | _, _ => none
theorem own_append {K : PySem.W.Frag} : OwnOp K rAppend oAppend := fun Z H v0 w0 f0 vs ds w s z r0 zn rs e Q k => by
  unfold oAppend at e
  split at e
  · rename_i xs d
    split at e
    · rename_i hl
      cases e
      cases r0 with
      | ls ho hr =>
        cases rs with
        | cons h1 h2 =>
          cases h2
          refine ⟨_, _, _, rfl, rfl, ho, by rw [hr.length]; exact hl, ?_⟩
          exact k _ Z _ [_] [] (Ch.upd1 z (by rw [ho]; exact fun q => nomatch q) (zn _ (by simp))) (.ls upd_same (hr.append (.one h1))) (.va .non)
    · cases e
  · cases e
def oPop : W → List D → Option (W × W)
  | .ls xs, [] => match xs[xs.length - 1]? with
    | some d => some (.va d, .ls xs.dropLast)
    | none => none
  | _, _ => none
theorem own_pop {K : PySem.W.Frag} : OwnOp K rPop oPop := fun Z H v0 w0 f0 vs ds w s z r0 zn rs e Q k => by
  unfold oPop at e
  split at e
  · rename_i xs
    split at e
    · rename_i d hd
      cases e
      cases r0 with
      | ls ho hr =>
        cases rs
        obtain ⟨v, q1, q2⟩ := hr.get hd
        refine ⟨_, _, v, rfl, rfl, ho, by rw [hr.length]; exact q1, ?_⟩
        refine k _ Z _ [_] [] (Ch.upd1 z (by rw [ho]; exact fun q => nomatch q) (zn _ (by simp))) (.ls upd_same ?_) (.va q2)
        rw [List.dropLast_eq_take, List.dropLast_eq_take, hr.length]
        exact hr.take _
    · cases e
  · cases e
def oPopAt : W → List D → Option (W × W)
  | .ls xs, [.int i] => if -(2 ^ 63) ≤ i ∧ i < 2 ^ 63 then match seqIndex? i xs.length with
    | some k => match xs[k]? with
      | some d => some (.va d, .ls (xs.eraseIdx k))
      | none => none
    | none => none else none
  | _, _ => none
theorem own_popAt {K : PySem.W.Frag} : OwnOp K rPopAt oPopAt := fun Z H v0 w0 f0 vs ds w s z r0 zn rs e Q k => by
  unfold oPopAt at e
  split at e
  case h_2 => cases e
  rename_i xs i
  split at e
  case isFalse => cases e
  rename_i hi
  split at e
  case h_2 => cases e
  rename_i j hj
  split at e
  case h_2 => cases e
  rename_i d hd
  cases e
  cases r0 with
  | ls ho hr =>
    cases rs with
    | cons h1 h2 =>
      cases h2
      cases h1
      obtain ⟨v, q1, q2⟩ := hr.get hd
      exact ⟨_, _, i, j, v, rfl, rfl, ho, hi.1, hi.2, by rw [hr.length]; exact hj, q1, k _ Z _ [_] [] (Ch.upd1 z (by rw [ho]; exact fun q => nomatch q) (zn _ (by simp))) (.ls upd_same (hr.eraseIdx _)) (.va q2)⟩
/-- x[e] of an own list -/
def fIxO (i : Nat) (fb : F D) : F D := fun ρ => match ρ[i]? with
  | some (.so _ _) => (fb.bind fun d ρ1 => match ρ1[i]?, d with
    | some (.so _ (.ls xs)), .int k => (atI xs k).map (.ok · ρ1)
    | _, _ => none) ρ
  | _ => none
theorem se_ixO {i : Nat} {y : Str} {py : Pos} (hN : g.N[i]? = some y) (hv : Vis g.sc y) (hb : SE g b fb) (hs : PlainIx b) (hd : (y == ("__debug__" : Str)) = false := by decide) (hcd : (y == ("__classdict__" : Str)) = false := by decide) : SE g (.Subscript (.Name y py) b pos) (fIxO i fb) := by
  obtain ⟨t, pt, s⟩ := hb
  refine ⟨tOp (rIxL g.K) (tVar i) t, fun X is => by rw [← is.K]; exact pe_ix ix_list (pe_var (by rw [is.N]; exact hN) (is.vis hv) hd hcd) (pt X is) hs, fun fx Z H ρ σ ex w rr e x Q k => ?_⟩
  show ∃ v, σ[i]? = some (some v) ∧ t σ H fun u H1 => rIxL g.K v u H1 Q
  unfold fIxO at e
  split at e
  case h_2 => cases e
  rename_i io0 w00 q0
  obtain ⟨v0, f00, h0, hr0, _⟩ := w.focus q0
  refine ⟨v0, h0, ?_⟩
  refine se_run s w e x fun dd ρ1 u Z1 H1 e1 m1 r1 x1 => ?_
  split at e1
  case h_2 => cases e1
  rename_i io xs kk q1
  obtain ⟨v, f0, g1, g2, g3, g4, _, _, g5⟩ := m1.wd.focus q1
  have ev : v = v0 := by
    rw [h0] at g1
    exact (Option.some.inj (Option.some.inj g1)).symm
  subst ev
  cases ha : atI xs kk with
  | none => rw [ha] at e1; cases e1
  | some d' =>
    rw [ha] at e1
    cases e1
    cases r1
    cases g2 with
    | ls ho hr =>
      obtain ⟨v', q1, q2⟩ := hr.atI ha
      exact ⟨_, _, _, v', rfl, rfl, .of ho, q1, k d' ρ1 rfl v' Z1 H1 m1 q2⟩
/-! ### x[i] = e of an own list, an own dict -/
def putOp (K : PySem.W.Frag) (r : V → V → V → Hp → (Hp → Prop) → Prop) (o : W → D → D → Option W) : Prop :=
  ∀ Z H v0 w0 f0 vi vd di dd s, Zle Z H → RepW K Z H v0 w0 f0 → (∀ a ∈ f0, Z a = none) → Rep K Z vi di → Rep K Z vd dd → o w0 di dd = some s →
    ∀ Q : Hp → Prop, (∀ H' f', Ch Z H f0 Z H' f' [] → RepW K Z H' v0 s f' → Q H') → r v0 vi vd H Q
def fPut (i : Nat) (o : W → D → D → Option W) (fv fi : F D) : FS := FS.of fv fun d n ρ => match ρ[i]? with
  | some (.so _ _) => (FS.of fi fun k _ ρ1 => match ρ1[i]? with
    | some (.so io w0) => (o w0 k d).map fun s => .nx (ρ1.set i (.so io s))
    | _ => none) n ρ
  | _ => none
theorem ss_put {i : Nat} {y : Str} {py pt : Pos} {r : V → V → V → Hp → (Hp → Prop) → Prop} {o : W → D → D → Option W} (hr : putOp g.K r o) (hps : ∀ X, Is g X → PSet X r) (hN : g.N[i]? = some y) (hv : Vis g.sc y) (he : SE g e fa) (hi : SE g b fb)
    (hd : (y == ("__debug__" : Str)) = false := by decide) (hcd : (y == ("__classdict__" : Str)) = false := by decide)
    (h1 : ∀ env, swapsWithSole [.Subscript (.Name y py) b pt] e pos.line env = pure false := by intro _; rfl)
    (h2 : ∀ env, swappedStores [.Subscript (.Name y py) b pt] e env = pure none := by intro _; rfl)
    (h3 : ∀ env, List.map (·.2) (assignEach [.Subscript (.Name y py) b pt] env) = [assign (.Subscript (.Name y py) b pt) env] := by intro _; rfl)
    (h4 : ∀ env v, assign (.Subscript (.Name y py) b pt) env v = (do
      let ov ← holding [v] (eval (.Name y py) env)
      let iv ← holding [v, ov] (eval b env)
      standAt pt
      holding [v, ov, iv] (setItem ov iv v)
      release [v, ov, iv] []) := by intro _ _; rfl) :
    SS g (.Assign [.Subscript (.Name y py) b pt] e pos) (fPut i o fa fb) := by
  obtain ⟨te, pe, se⟩ := he
  obtain ⟨ti, pi, si⟩ := hi
  refine ⟨tAsg te (gSub (tVar i) ti r), fun X is => ps_asg (pe X is) (pg_sub (pe_var (by rw [is.N]; exact hN) (is.vis hv) hd hcd) (pi X is) (hps X is) (h4 _)) (h1 _) (h2 _) (h3 _), fun fx Z H ρ σ w n o' e' D ok => ?_⟩
  show te σ H fun x H1 => ∃ v, σ[i]? = some (some v) ∧ ti σ H1 fun u H2 => r v u x H2 fun H3 => D.nx σ H3
  refine s_run se w e' ok fun d ρ1 x Z1 H1 e1 m1 r1 ok1 => ?_
  split at e1
  case h_2 => cases e1
  rename_i io0 w00 q0
  obtain ⟨v0, f00, h0, hr0, _⟩ := m1.wd.focus q0
  refine ⟨v0, h0, ?_⟩
  refine s_run si m1.wd e1 ok1 fun kk ρ2 u Z2 H2 e2 m2 r2 ok2 => ?_
  split at e2
  case h_2 => cases e2
  rename_i io w0 q1
  obtain ⟨v, f0, g1, g2, g3, g4, _, _, g5⟩ := m2.wd.focus q1
  have ev : v = v0 := by
    rw [h0] at g1
    exact (Option.some.inj (Option.some.inj g1)).symm
  subst ev
  cases ho : o w0 kk d with
  | none => rw [ho] at e2; cases e2
  | some s' =>
    rw [ho] at e2
    cases e2
    refine hr Z2 H2 v w0 f0 u x kk d s' m2.zh g2 g4 r2 (r1.mono m2.z) ho _ fun H3 f' c rs => ?_
    obtain ⟨w2, f2⟩ := g5 Z2 H3 s' f' [] c rs
    exact ok2 Z2 H3 σ (.refl _) w2
def oSetL : W → D → D → Option W
  | .ls xs, .int k, d => (ixN xs.length k).map fun j => .ls (xs.set j d)
  | _, _, _ => none
theorem put_list {K : PySem.W.Frag} : putOp K rSetL oSetL := fun Z H v0 w0 f0 vi vd di dd s z r0 zn ri rd e Q k => by
  unfold oSetL at e
  split at e
  case h_2 => cases e
  rename_i xs kk
  cases q : ixN xs.length kk with
  | none => rw [q] at e; cases e
  | some j =>
    rw [q] at e
    cases e
    cases r0 with
    | ls ho hr =>
      cases ri
      exact ⟨_, _, kk, j, rfl, rfl, ho, by rw [hr.length]; exact q, k _ [_] (Ch.upd1 z (by rw [ho]; exact fun q => nomatch q) (zn _ (by simp))) (.ls upd_same (hr.set rd _))⟩
end
end FL
set_option Elab.async false
set_option linter.all false
set_option maxRecDepth 100000
set_option maxHeartbeats 1000000
/-! FL11: dicts -/
namespace FL
open PySem PySem.Spec PyProof.Rows L2

def key? : D → Option Key
  | .int n => some (.inl n)
  | .str s => some (.inr s)
  | _ => none
def keys? : List D → Option (List Key)
  | [] => some []
  | d :: ds => match key? d, keys? ds with
    | some k, some ks => some (k :: ks)
    | _, _ => none
def tkey? : D → Option (List Key)
  | .tup ds => keys? ds
  | _ => none
/-- a key, as data -/
def kD : Key → D
  | .inl n => .int n
  | .inr s => .str s
section
variable {κ : Type} [DecidableEq κ]
def lookD (kvs : List (κ × D)) (k : κ) : Option D := (kvs.find? fun kv => decide (kv.1 = k)).map (·.2)
def putD (kvs : List (κ × D)) (k : κ) (d : D) : List (κ × D) := if (kvs.any fun kv => decide (kv.1 = k)) = true then kvs.map (fun kv => if kv.1 = k then (kv.1, d) else kv) else kvs ++ [(k, d)]
end
section
variable {K : PySem.W.Frag} {Z Z' H H' : Hp}
theorem Rep.key {v : V} {d : D} {k : Key} (r : Rep K Z v d) (e : key? d = some k) : v = kV k := by
  cases r <;> simp [key?] at e <;> subst e <;> rfl
theorem Rep.kD (k : Key) : Rep K Z (kV k) (FL.kD k) := by
  cases k with
  | inl n => exact .int n
  | inr s => exact .str s
theorem Reps.keys : ∀ {vs : List V} {ds : List D} {ks : List Key}, Reps K Z vs ds → keys? ds = some ks → vs = ks.map kV
  | _, _, _, .nil, e => by simp [keys?] at e; subst e; rfl
  | _, _, _, .cons h r, e => by
    unfold keys? at e
    split at e
    · rename_i k ks e1 e2
      cases e
      rw [h.key e1, Reps.keys r e2]
      rfl
    · cases e
theorem Rep.tkey (z : Zle Z H) {v : V} {d : D} {ks : List Key} (r : Rep K Z v d) (e : tkey? d = some ks) : ∃ b, v = .ref b ∧ H b = some (.tup (ks.map kV)) := by
  cases r with
  | tup h hr =>
    have := hr.keys (ks := ks) e
    subst this
    exact ⟨_, rfl, z _ _ h⟩
  | _ => simp [tkey?] at e
theorem look_reps {κ : Type} [DecidableEq κ] {k : κ} : ∀ {kvs : List (κ × V)} {kds : List (κ × D)}, kvs.map (·.1) = kds.map (·.1) → Reps K Z (kvs.map (·.2)) (kds.map (·.2)) →
    match lookD kds k with
    | none => valV kvs k = none
    | some d => ∃ v, valV kvs k = some v ∧ Rep K Z v d
  | [], [], _, _ => by simp [lookD, valV]
  | [], _ :: _, h, _ => by simp at h
  | _ :: _, [], h, _ => by simp at h
  | (k1, v) :: kvs, (k2, d) :: kds, h, r => by
    simp only [List.map_cons, List.cons.injEq] at h r
    obtain ⟨rfl, h⟩ := h
    cases r with
    | cons r1 r2 =>
      have ih := look_reps (k := k) h r2
      unfold lookD valV at ih ⊢
      rw [List.find?_cons, List.find?_cons]
      by_cases q : k1 = k
      · simp only [q, decide_true, Option.map_some]
        exact ⟨v, rfl, r1⟩
      · simp only [q, decide_false]
        exact ih
theorem put_reps {κ : Type} [DecidableEq κ] {k : κ} {v : V} {d : D} {kvs : List (κ × V)} {kds : List (κ × D)} (h : kvs.map (·.1) = kds.map (·.1)) (r : Reps K Z (kvs.map (·.2)) (kds.map (·.2))) (rv : Rep K Z v d) :
    (putK kvs k v).map (·.1) = (putD kds k d).map (·.1) ∧ Reps K Z ((putK kvs k v).map (·.2)) ((putD kds k d).map (·.2)) := by
  have hany : (kvs.any fun kv => decide (kv.1 = k)) = kds.any fun kv => decide (kv.1 = k) := by
    have : ∀ (α : Type) (l : List (κ × α)), (l.any fun kv => decide (kv.1 = k)) = (l.map (·.1)).any fun x => decide (x = k) := fun α l => by
      rw [List.any_map]; rfl
    rw [this, this, h]
  unfold putK putD
  rw [hany]
  by_cases q : (kds.any fun kv => decide (kv.1 = k)) = true
  · rw [if_pos q, if_pos q]
    clear q hany
    induction kvs generalizing kds with
    | nil =>
      cases kds with
      | nil => exact ⟨rfl, .nil⟩
      | cons _ _ => simp at h
    | cons p kvs ih =>
      cases kds with
      | nil => simp at h
      | cons p2 kds =>
        simp only [List.map_cons, List.cons.injEq] at h r
        cases r with
        | cons r1 r2 =>
          obtain ⟨i1, i2⟩ := ih h.2 r2
          obtain ⟨h1, h2⟩ := h
          refine ⟨?_, ?_⟩
          · simp only [List.map_cons, List.cons.injEq]
            refine ⟨?_, i1⟩
            split <;> split <;> simp_all
          · simp only [List.map_cons]
            refine .cons ?_ i2
            by_cases hk : p.1 = k
            · rw [if_pos hk, if_pos (h1 ▸ hk)]; exact rv
            · rw [if_neg hk, if_neg (h1 ▸ hk)]; exact r1
  · rw [if_neg q, if_neg q]
    refine ⟨by simp [h], ?_⟩
    rw [List.map_append, List.map_append]
    exact r.append (.one rv)
/-- a dict asked -/
def dget? : D → D → Option (Option D)
  | .dk kds, k => (key? k).map (lookD kds)
  | .dt kds, k => (tkey? k).map (lookD kds)
  | .ldt kds, k => (tkey? k).map (lookD kds)
  | _, _ => none
theorem Rep.dget (z : Zle Z H) {x y : V} {dx dy : D} {o : Option D} (rx : Rep K Z x dx) (ry : Rep K Z y dy) (e : dget? dx dy = some o) : ∃ a r, x = .ref a ∧ DGet H a y r ∧ r.isSome = o.isSome ∧ (∀ d, o = some d → ∃ v, r = some v ∧ Rep K Z v d) := by
  cases rx with
  | dk h hk hr =>
    simp only [dget?, Option.map_eq_some_iff] at e
    obtain ⟨k, e1, rfl⟩ := e
    have := look_reps (k := k) hk hr
    refine ⟨_, _, rfl, .inl ⟨_, k, .inl (z _ _ h), ry.key e1, rfl⟩, ?_, fun d hd => ?_⟩
    · split at this
      · rename_i q; rw [q, this]; rfl
      · rename_i d q
        obtain ⟨v, h1, _⟩ := this
        rw [q, h1]; rfl
    · rw [hd] at this; exact this
  | dt h hk hr =>
    simp only [dget?, Option.map_eq_some_iff] at e
    obtain ⟨k, e1, rfl⟩ := e
    have := look_reps (k := k) hk hr
    obtain ⟨b, rfl, hb⟩ := ry.tkey z e1
    refine ⟨_, _, rfl, .inr ⟨_, k, b, .inl (z _ _ h), rfl, hb, rfl⟩, ?_, fun d hd => ?_⟩
    · split at this
      · rename_i q; rw [q, this]; rfl
      · rename_i d q
        obtain ⟨v, h1, _⟩ := this
        rw [q, h1]; rfl
    · rw [hd] at this; exact this
  | ldt h hk hr =>
    simp only [dget?, Option.map_eq_some_iff] at e
    obtain ⟨k, e1, rfl⟩ := e
    have := look_reps (k := k) hk hr
    obtain ⟨b, rfl, hb⟩ := ry.tkey z e1
    refine ⟨_, _, rfl, .inr ⟨_, k, b, .inr ⟨_, z _ _ h⟩, rfl, hb, rfl⟩, ?_, fun d hd => ?_⟩
    · split at this
      · rename_i q; rw [q, this]; rfl
      · rename_i d q
        obtain ⟨v, h1, _⟩ := this
        rw [q, h1]; rfl
    · rw [hd] at this; exact this
  | _ => simp [dget?] at e
end
section
variable {g : Gm} {fx : Fx} {Z Z' H H' : Hp} {ρ ρ1 : Rho} {σ : L2.St} {ex : List Addr} {α β : Type}
variable {e a b c tg : Expr} {fa fb fc : F D} {pos p : Pos} {es : List Expr} {fs : F (List D)} {ga gb : F Bool} {rest : List Expr} {x : Str} {k n : Nat} {st : Stmt} {sts : List Stmt} {f f1 f2 : FS}
theorem Is.hu' {X : Cx} (i : Is g X) : X.A.units + 1 < cLine := i.hu
def oDGet (x y : D) : Option D := (dget? x y).bind id
theorem se_dget (ha : SE g a fa) (hb : SE g b fb) (hs : NoSl b := by intro _ _; rfl) : SE g (.Subscript a b pos) (fOp oDGet fa fb) := by
  obtain ⟨ta, pa, sa⟩ := ha
  obtain ⟨tb, pb, sb⟩ := hb
  refine ⟨tDGet ta tb, fun X is => pe_dget is.hu (pa X is) (pb X is) hs, fun fx Z H ρ σ ex w rr e x Q k => ?_⟩
  show ta σ H fun x H1 => tb σ H1 fun y H2 => ∃ a v, x = V.ref a ∧ DGet H2 a y (some v) ∧ Q v H2
  refine se_run sa w e x fun dx ρ1 v Z1 H1 e1 m1 r1 x1 => ?_
  refine se_run sb m1.wd e1 x1 fun dy ρ2 u Z2 H2 e2 m2 r2 x2 => ?_
  obtain ⟨d', h1, h2⟩ := of_some e2
  unfold oDGet at h1
  cases q : dget? dx dy with
  | none => rw [q] at h1; cases h1
  | some o =>
    rw [q] at h1
    have h1 : o = some d' := h1
    obtain ⟨a, r, rfl, hg, _, hd⟩ := (r1.mono m2.z).dget m2.zh r2 q
    obtain ⟨v', rfl, rv⟩ := hd d' h1
    exact ⟨a, v', rfl, hg, k d' ρ2 h2 v' Z2 H2 (m1.trans m2) rv⟩
def oDIn (neg : Bool) (y x : D) : Option D := (dget? x y).map fun o => .bl (if neg then !o.isSome else o.isSome)
theorem sem_din {ta tb : TE} (sa : SemE g ta fa) (sb : SemE g tb fb) : SemE g (tDIn ta tb) (fOp (oDIn false) fa fb) := fun fx Z H ρ σ ex w rr e x Q k => by
  show ta σ H fun y H1 => tb σ H1 fun x H2 => ∃ a o, x = V.ref a ∧ DGet H2 a y o ∧ Q (V.bl o.isSome) H2
  refine se_run sa w e x fun dy ρ1 v Z1 H1 e1 m1 r1 x1 => ?_
  refine se_run sb m1.wd e1 x1 fun dx ρ2 u Z2 H2 e2 m2 r2 x2 => ?_
  obtain ⟨d', h1, h2⟩ := of_some e2
  unfold oDIn at h1
  cases q : dget? dx dy with
  | none => rw [q] at h1; cases h1
  | some o =>
    rw [q] at h1
    cases h1
    obtain ⟨a, r, rfl, hg, hi, _⟩ := r2.dget m2.zh (r1.mono m2.z) q
    refine ⟨a, r, rfl, hg, ?_⟩
    rw [hi]
    exact k _ ρ2 h2 _ Z2 H2 (m1.trans m2) (.bl _)
theorem sem_dnotin {ta tb : TE} (sa : SemE g ta fa) (sb : SemE g tb fb) : SemE g (tDNotIn ta tb) (fOp (oDIn true) fa fb) := fun fx Z H ρ σ ex w rr e x Q k => by
  show ta σ H fun y H1 => tb σ H1 fun x H2 => ∃ a o, x = V.ref a ∧ DGet H2 a y o ∧ Q (V.bl !o.isSome) H2
  refine se_run sa w e x fun dy ρ1 v Z1 H1 e1 m1 r1 x1 => ?_
  refine se_run sb m1.wd e1 x1 fun dx ρ2 u Z2 H2 e2 m2 r2 x2 => ?_
  obtain ⟨d', h1, h2⟩ := of_some e2
  unfold oDIn at h1
  cases q : dget? dx dy with
  | none => rw [q] at h1; cases h1
  | some o =>
    rw [q] at h1
    cases h1
    obtain ⟨a, r, rfl, hg, hi, _⟩ := r2.dget m2.zh (r1.mono m2.z) q
    refine ⟨a, r, rfl, hg, ?_⟩
    rw [hi]
    exact k _ ρ2 h2 _ Z2 H2 (m1.trans m2) (.bl _)
theorem se_din (ha : SE g a fa) (hb : SE g b fb) (hm : behindInMarks .In b = false := by rfl) : SE g (.Compare a [.In] [b] pos) (fOp (oDIn false) fa fb) := by
  obtain ⟨ta, pa, sa⟩ := ha
  obtain ⟨tb, pb, sb⟩ := hb
  exact ⟨tDIn ta tb, fun X is => pe_cmp (pc_din is.hu (pa X is) (pb X is)) hm, sem_din sa sb⟩
theorem se_dnotin (ha : SE g a fa) (hb : SE g b fb) (hm : behindInMarks .NotIn b = false := by rfl) : SE g (.Compare a [.NotIn] [b] pos) (fOp (oDIn true) fa fb) := by
  obtain ⟨ta, pa, sa⟩ := ha
  obtain ⟨tb, pb, sb⟩ := hb
  exact ⟨tDNotIn ta tb, fun X is => pe_cmp (pc_dnotin is.hu (pa X is) (pb X is)) hm, sem_dnotin sa sb⟩
theorem st_din (ha : SE g a fa) (hb : SE g b fb) (hm : behindInMarks .In b = false := by rfl) : ST g (.Compare a [.In] [b] pos) (fT (fOp (oDIn false) fa fb)) := by
  obtain ⟨ta, pa, sa⟩ := ha
  obtain ⟨tb, pb, sb⟩ := hb
  refine ⟨tB (tDIn ta tb), fun X is => pt_cmp (pc_din is.hu (pa X is) (pb X is)) hm, sem_test (sem_din sa sb)⟩
theorem st_dnotin (ha : SE g a fa) (hb : SE g b fb) (hm : behindInMarks .NotIn b = false := by rfl) : ST g (.Compare a [.NotIn] [b] pos) (fT (fOp (oDIn true) fa fb)) := by
  obtain ⟨ta, pa, sa⟩ := ha
  obtain ⟨tb, pb, sb⟩ := hb
  refine ⟨tB (tDNotIn ta tb), fun X is => pt_cmp (pc_dnotin is.hu (pa X is) (pb X is)) hm, sem_test (sem_dnotin sa sb)⟩
def isDct : D → Bool
  | .dk _ | .dt _ | .ldt _ => true
  | _ => false
theorem Rep.isD {K : PySem.W.Frag} (z : Zle Z H) {v : V} {d : D} (r : Rep K Z v d) (h : isDct d = true) : ∃ a, v = .ref a ∧ IsD H a := by
  cases r with
  | dk h1 _ _ => exact ⟨_, rfl, .inl ⟨_, .inl (z _ _ h1)⟩⟩
  | dt h1 _ _ => exact ⟨_, rfl, .inr ⟨_, .inl (z _ _ h1)⟩⟩
  | ldt h1 _ _ => exact ⟨_, rfl, .inr ⟨_, .inr ⟨_, z _ _ h1⟩⟩⟩
  | _ => cases h
/-- d.get(k, x) -/
def fDGet2 (fd fk fz : F D) : F D := fd.bind fun x => if isDct x then fk.bind fun y => fz.bind fun z => F.of ((dget? x y).map fun o => o.getD z) else fun _ => none
theorem se_dget2 {apos cpos : Pos} (ha : SE g a fa) (hb : SE g b fb) (hc : SE g c fc) (hm : ∀ X : Cx, M2 X a "get" apos b c cpos := by intro _; exact ⟨rfl, rfl, rfl, rfl⟩) : SE g (.Call (.Attribute a "get" apos) [b, c] [] cpos) (fDGet2 fa fb fc) := by
  obtain ⟨ta, pa, sa⟩ := ha
  obtain ⟨tb, pb, sb⟩ := hb
  obtain ⟨tc, pc, sc⟩ := hc
  refine ⟨tDGet2 ta tb tc, fun X is => pe_dget2 is.hu (pa X is) (pb X is) (pc X is) (hm X), fun fx Z H ρ σ ex w rr e x Q k => ?_⟩
  show ta σ H fun x H1 => ∃ a, x = V.ref a ∧ IsD H1 a ∧ tb σ H1 fun y H2 => tc σ H2 fun z H3 => ∃ o, DGet H3 a y o ∧ Q (o.getD z) H3
  refine se_run sa w e x fun dx ρ1 v Z1 H1 e1 m1 r1 x1 => ?_
  split at e1
  case isFalse => cases e1
  rename_i hd
  obtain ⟨a, rfl, hD⟩ := r1.isD m1.zh hd
  refine ⟨a, rfl, hD, ?_⟩
  refine se_run sb m1.wd e1 x1 fun dy ρ2 u Z2 H2 e2 m2 r2 x2 => ?_
  refine se_run sc m2.wd e2 x2 fun dz ρ3 u3 Z3 H3 e3 m3 r3 x3 => ?_
  obtain ⟨d', h1, h2⟩ := of_some e3
  cases q : dget? dx dy with
  | none => rw [q] at h1; cases h1
  | some o =>
    rw [q] at h1
    cases h1
    obtain ⟨a', r, q1, hg, hi, hv⟩ := (r1.mono (m2.z.trans m3.z)).dget m3.zh (r2.mono m3.z) q
    cases q1
    have m := (m1.trans m2).trans m3
    refine ⟨r, hg, ?_⟩
    cases o with
    | none =>
      have : r = none := by cases r with | none => rfl | some _ => cases hi
      subst this
      exact k _ ρ3 h2 _ Z3 H3 m r3
    | some d =>
      obtain ⟨v', rfl, rv⟩ := hv d rfl
      exact k _ ρ3 h2 _ Z3 H3 m rv

/-! ### own dicts -/
def fNew (w : W) : F W := fun ρ => some (.ok w ρ)
theorem sw_newT : SW g (.Dict [] [] pos) (fNew (.dt [])) := by
  refine ⟨tDNewT, fun _ _ => pe_dnewT, fun fx Z H ρ σ ex w r e x Q k => ?_⟩
  cases e
  intro p hp
  obtain ⟨w1, f1⟩ := (Mv.refl (g := g) w).new (o := .dT []) hp
  exact k _ ρ rfl _ Z _ [p] (.refl _) w1 f1 (.dt upd_same rfl .nil)
theorem sw_newK : SW g (.Dict [] [] pos) (fNew (.dk [])) := by
  refine ⟨tDNewK, fun _ _ => pe_dnewK, fun fx Z H ρ σ ex w r e x Q k => ?_⟩
  cases e
  intro p hp
  obtain ⟨w1, f1⟩ := (Mv.refl (g := g) w).new (o := .dK []) hp
  exact k _ ρ rfl _ Z _ [p] (.refl _) w1 f1 (.dk upd_same rfl .nil)
def oSetD : W → D → D → Option W
  | .dk kds, k, d => (key? k).bind fun k => if kds.length < sizeLine then some (.dk (putD kds k d)) else none
  | .dt kds, k, d => (tkey? k).bind fun k => if kds.length < sizeLine then some (.dt (putD kds k d)) else none
  | _, _, _ => none
theorem put_dict {K : PySem.W.Frag} : putOp K rSetD oSetD := fun Z H v0 w0 f0 vi vd di dd s z r0 zn ri rd e Q k => by
  show ∃ a H', v0 = .ref a ∧ DPut H a vi vd H' ∧ Q H'
  cases r0 with
  | dk ho hk hr =>
    obtain ⟨kk, e1, e2⟩ := Option.bind_eq_some_iff.mp e
    split at e2
    case isFalse => cases e2
    rename_i hl
    cases e2
    have hlen : ∀ {kvs : List (Key × V)} {kds : List (Key × D)}, kvs.map (·.1) = kds.map (·.1) → kvs.length = kds.length := fun h => by simpa using congrArg List.length h
    obtain ⟨p1, p2⟩ := put_reps (k := kk) hk hr rd
    refine ⟨_, _, rfl, .inl ⟨_, kk, ho, ri.key e1, by rw [hlen hk]; exact hl, rfl⟩, k _ [_] (Ch.upd1 z (by rw [ho]; exact fun q => nomatch q) (zn _ (by simp))) (.dk upd_same p1 p2)⟩
  | dt ho hk hr =>
    obtain ⟨kk, e1, e2⟩ := Option.bind_eq_some_iff.mp e
    split at e2
    case isFalse => cases e2
    rename_i hl
    cases e2
    have hlen : ∀ {kvs : List (List Key × V)} {kds : List (List Key × D)}, kvs.map (·.1) = kds.map (·.1) → kvs.length = kds.length := fun h => by simpa using congrArg List.length h
    obtain ⟨p1, p2⟩ := put_reps (k := kk) hk hr rd
    obtain ⟨b, rfl, hb⟩ := ri.tkey z e1
    refine ⟨_, _, rfl, .inr ⟨_, kk, b, ho, rfl, hb, by rw [hlen hk]; exact hl, rfl⟩, k _ [_] (Ch.upd1 z (by rw [ho]; exact fun q => nomatch q) (zn _ (by simp))) (.dt upd_same p1 p2)⟩
  | _ => simp [oSetD] at e
theorem Is.setD {X : Cx} (i : Is g X) : PSet X rSetD := set_dict i.hu
end
end FL
set_option Elab.async false
set_option linter.all false
set_option maxRecDepth 100000
set_option maxHeartbeats 1000000
/-! FL12: several values at once; names set by them; built-ins -/
namespace FL
open PySem PySem.Spec PyProof.Rows L2

section
variable {g : Gm} {fx : Fx} {Z Z' H H' : Hp} {ρ ρ1 : Rho} {σ : L2.St} {ex : List Addr} {α β : Type}
variable {e a b c tg : Expr} {fa fb fc : F D} {pos p : Pos} {es : List Expr} {fs : F (List D)} {ga gb : F Bool} {rest : List Expr} {x : Str} {k n : Nat} {st : Stmt} {sts : List Stmt} {f f1 f2 : FS}
/-- x, y = a, b (two locals) -/
def fPar (i j : Nat) (f1 f2 : F W) : FS := FS.of f1 fun w1 => FS.of f2 fun w2 _ ρ => if i < ρ.length ∧ j < ρ.length then some (.nx ((ρ.set i (.so false w1)).set j (.so false w2))) else none
theorem ss_par {i j : Nat} {x y : Str} {px py pt pt2 : Pos} {kt k2 : Nat} {h1 h2 : F W} (hNi : g.N[i]? = some x) (hNj : g.N[j]? = some y) (hij : i ≠ j) (hx : g.sc.names.lookup x = some .local) (hy : g.sc.names.lookup y = some .local) (ha : SW g a h1) (hb : SW g b h2)
    (hs : ∀ env : Env, env.scope = g.sc → swappedStores [.Tuple [.Name x px, .Name y py] kt pt] (.Tuple [a, b] k2 pt2) env = pure (some [x, y]))
    (hs1 : ∀ env, swapsWithSole [.Tuple [.Name x px, .Name y py] kt pt] (.Tuple [a, b] k2 pt2) pos.line env = pure false := by intro _; rfl)
    (he : ∀ env, starEach [a, b] env = (false, eval a env) :: starEach [b] env := by intro _; rfl) (he2 : ∀ env, starEach [b] env = (false, eval b env) :: starEach [] env := by intro _; rfl) :
    SS g (.Assign [.Tuple [.Name x px, .Name y py] kt pt] (.Tuple [a, b] k2 pt2) pos) (fPar i j h1 h2) := by
  obtain ⟨ta, pa, sa⟩ := ha
  obtain ⟨tb, pb, sb⟩ := hb
  refine ⟨tPar i j (tCons ta (tCons tb tNil)), fun X is => ps_par is.calm (by rw [is.N]; exact is.nd) (by rw [is.N]; exact hNi) (by rw [is.N]; exact hNj) hij (by rw [is.sc]; exact hx) (by rw [is.sc]; exact hy) (pa_cons (pa X is) (pa_cons (pb X is) pa_nil (he2 _)) (he _)) (hs _ is.sc) (hs1 _), fun fx Z H ρ σ w n o e' D ok => ?_⟩
  show ta σ H fun v1 H1 => tb σ H1 fun v2 H2 => ∃ v u, [v1, v2] = [v, u] ∧ D.nx ((List.set σ i (some v)).set j (some u)) H2
  refine sW_run sa w e' ok fun w1 ρ1 v1 Z1 H1 fp1 e1 z1 wd1 r1 ok1 => ?_
  rcases of_cases e1 with ⟨w2, ρ2, e2, e3⟩ | ⟨xx, ρ2, e2, rfl⟩
  · refine sb fx Z1 H1 ρ1 σ fp1 wd1 _ e2 (fun _ _ z => nomatch z) _ fun w2' ρ2' z v2 Z2 H2 fp2 z2 wd2 fr r2 => ?_
    cases z
    split at e3
    case isFalse => cases e3
    rename_i hij'
    cases e3
    refine ⟨v1, v2, rfl, ?_⟩
    have r1' := r1.keep z2 fr
    have wd3 : Wd g.K fx Z2 H2 ρ2 σ (fp1 ++ (fp2 ++ [])) := wd2.perm (by rw [List.append_nil]; exact List.perm_append_comm)
    have wd4 := Wd.put (i := i) wd3 r1' hij'.1
    have wd5 := Wd.put (i := j) wd4 r2 (by rw [List.length_set]; exact hij'.2)
    exact ok1 Z2 H2 _ z2 wd5
  · refine sb fx Z1 H1 ρ1 σ fp1 wd1 _ e2 (fun e ρ' q c d Z2 H2 m er => ?_) _ fun d ρ1 z => nomatch z
    cases q
    exact ok1 c d Z2 H2 σ m.z (Wd.drop (f := fp1) (ex := []) (by rw [List.append_nil]; exact m.wd)) er
/-- a target of any kind = data -/
def fAsg (f : F D) (tg : D → Rho → Option Rho) : FS := FS.of f fun d _ ρ => (tg d ρ).map .nx
theorem ss_asg {ftg : D → Rho → Option Rho} {js : List Nat} (h : SE g e fa) (hg : SG g tg ftg js)
    (h1 : ∀ env, swapsWithSole [tg] e pos.line env = pure false := by intro _; rfl) (h2 : ∀ env, swappedStores [tg] e env = pure none := by intro _; rfl)
    (h3 : ∀ env, List.map (·.2) (assignEach [tg] env) = [assign tg env] := by intro _; rfl) : SS g (.Assign [tg] e pos) (fAsg fa ftg) := by
  obtain ⟨te, pe, se⟩ := h
  obtain ⟨tt, pt, st⟩ := hg
  refine ⟨tAsg te tt, fun X is => ps_asg (pe X is) (pt X is) (h1 _) (h2 _) (h3 _), fun fx Z H ρ σ w n o e' D ok => ?_⟩
  show te σ H fun x H1 => tt x σ H1 D.nx
  refine s_run se w e' ok fun d ρ1 v Z1 H1 e1 m1 r1 ok1 => ?_
  cases q : ftg d ρ1 with
  | none => rw [q] at e1; cases e1
  | some ρ2 =>
    rw [q] at e1
    cases e1
    exact st fx Z1 H1 ρ1 σ [] d v ρ2 m1.wd r1 q _ fun σ' w' _ _ => ok1 Z1 H1 σ' (.refl _) w'
/-- several data at once: a, b = e1, e2 where the tuple is made -/
theorem ss_asg2 {ftg : D → Rho → Option Rho} {js : List Nat} (h : SE g e fa) (hg : SG g tg ftg js)
    (h1 : ∀ env, swapsWithSole [tg] e pos.line env = pure false := by intro _; rfl) (h2 : ∀ env : Env, env.scope = g.sc → swappedStores [tg] e env = pure none)
    (h3 : ∀ env, List.map (·.2) (assignEach [tg] env) = [assign tg env] := by intro _; rfl) : SS g (.Assign [tg] e pos) (fAsg fa ftg) := by
  obtain ⟨te, pe, se⟩ := h
  obtain ⟨tt, pt, st⟩ := hg
  refine ⟨tAsg te tt, fun X is => ps_asg (pe X is) (pt X is) (h1 _) (h2 _ is.sc) (h3 _), fun fx Z H ρ σ w n o e' D ok => ?_⟩
  show te σ H fun x H1 => tt x σ H1 D.nx
  refine s_run se w e' ok fun d ρ1 v Z1 H1 e1 m1 r1 ok1 => ?_
  cases q : ftg d ρ1 with
  | none => rw [q] at e1; cases e1
  | some ρ2 =>
    rw [q] at e1
    cases e1
    exact st fx Z1 H1 ρ1 σ [] d v ρ2 m1.wd r1 q _ fun σ' w' _ _ => ok1 Z1 H1 σ' (.refl _) w'

/-! ### isinstance -/
def tyN? : D → Option String
  | .non => some "NoneType" | .bl _ => some "bool" | .int _ => some "int" | .str _ => some "str"
  | .tup _ | .xtp _ => some "tuple" | .lst _ => some "list" | .dk _ | .dt _ => some "dict"
  | _ => none
theorem sqT_tyX {K : PySem.W.Frag} {a : Addr} {vs : List V} (h : SqT K H a vs) : TyX K H (.ref a) (.type "tuple") := by
  rcases h with (h | ⟨o, h⟩) | h
  · exact .base (.tup h)
  · exact .fTuple h
  · obtain ⟨o, us, n, h1, h2, _⟩ := h
    exact .kTuple h1 h2
theorem Rep.tyX {K : PySem.W.Frag} (z : Zle Z H) {v : V} {d : D} {t : String} (r : Rep K Z v d) (h : tyN? d = some t) : TyX K H v (.type t) := by
  cases r with
  | non => cases h; exact .base .non
  | bl b => cases h; exact .base (.bl b)
  | int b => cases h; exact .base (.int b)
  | str b => cases h; exact .base (.str b)
  | tup h1 _ => cases h; exact .base (.tup (z _ _ h1))
  | xtp h1 _ => cases h; exact sqT_tyX (z.sqT h1)
  | lst h1 _ => cases h; exact .base (.lst (z _ _ h1))
  | dk h1 _ _ => cases h; exact .base (.dK (z _ _ h1))
  | dt h1 _ _ => cases h; exact .base (.dT (z _ _ h1))
  | _ => simp [tyN?] at h
def tys? : List D → Option (List String)
  | [] => some []
  | .ty n :: ds => (tys? ds).map (n :: ·)
  | _ => none
def kitL (a : String) : List String → Option Bool
  | [] => some false
  | b :: bs => match kitB a b with
    | some true => some true
    | some false => kitL a bs
    | none => none
def oIsi : List D → Option D
  | [x, .ty b] => (tyN? x).bind fun a => (kitB a b).map .bl
  | [x, .tup ds] => (tyN? x).bind fun a => (tys? ds).bind fun bs => (kitL a bs).map .bl
  | _ => none
theorem kitAny_cons (K : PySem.W.Frag) (t u) (us) : PySem.W.kitAny K t (u :: us) = (match PySem.W.kitOne K t u with | some true => some true | some false => PySem.W.kitAny K t us | none => none) := by
  rw [PySem.W.kitAny]
  split <;> simp_all
theorem kitL_ty {K : PySem.W.Frag} {a : String} : ∀ {bs : List String} {r : Bool}, kitL a bs = some r → PySem.W.kitAny K (.type a) (bs.map .type) = some r
  | [], r, h => by cases h; rw [List.map_nil, PySem.W.kitAny]
  | b :: bs, r, h => by
    rw [List.map_cons, kitAny_cons]
    unfold kitL at h
    split at h
    · rename_i q; cases h; rw [kit_ty q]
    · rename_i q; rw [kit_ty q]; exact kitL_ty h
    · cases h
theorem Reps.tys {K : PySem.W.Frag} : ∀ {vs : List V} {ds : List D} {bs : List String}, Reps K Z vs ds → tys? ds = some bs → Paired ClsV vs (bs.map .type)
  | _, _, _, .nil, e => by simp [tys?] at e; subst e; exact .nil
  | _, _, _, .cons h r, e => by
    cases h <;> simp [tys?] at e
    obtain ⟨bs', e1, rfl⟩ := e
    exact .cons (.ty _) (Reps.tys r e1)
def rIsiA (K : PySem.W.Frag) : List V → Hp → VK → Prop := fun xs H Q => rIsi K xs H Q ∨ rIsiT K xs H Q
theorem caR_isi {X : Cx} : CallR X (.builtin "isinstance") (rIsiA X.K) := call_isi.or call_isiT
theorem cad_isi {K : PySem.W.Frag} : CaD K (rIsiA K) oIsi := fun Z H xs ds d z rs e Q k => by
  unfold oIsi at e
  split at e
  · rename_i x b
    obtain ⟨a, h1, h2⟩ := Option.bind_eq_some_iff.mp e
    obtain ⟨r, h3, rfl⟩ := Option.map_eq_some_iff.mp h2
    cases rs with
    | cons r1 rs =>
      cases rs with
      | cons r2 rs =>
        cases rs
        cases r2
        exact .inl ⟨_, _, _, _, r, rfl, .ty b, r1.tyX z h1, kit_ty h3, k.now z (.bl _)⟩
  · rename_i x ds'
    obtain ⟨a, h1, h2⟩ := Option.bind_eq_some_iff.mp e
    obtain ⟨bs, h3, h4⟩ := Option.bind_eq_some_iff.mp h2
    obtain ⟨r, h5, rfl⟩ := Option.map_eq_some_iff.mp h4
    cases rs with
    | cons r1 rs =>
      cases rs with
      | cons r2 rs =>
        cases rs
        cases r2 with
        | tup ho hr => exact .inr ⟨_, _, _, _, _, r, rfl, z _ _ ho, hr.tys h3, r1.tyX z h1, kitL_ty h5, k.now z (.bl _)⟩
  · cases e

/-! ### len, sum, min, max, all, any, abs, int -/
def ints? : List D → Option (List Int)
  | [] => some []
  | .int n :: ds => (ints? ds).map (n :: ·)
  | _ => none
def bls? : List D → Option (List Bool)
  | [] => some []
  | .bl n :: ds => (bls? ds).map (n :: ·)
  | _ => none
theorem ints_eq : ∀ {ds : List D} {ns : List Int}, ints? ds = some ns → ds = ns.map .int
  | [], ns, h => by cases h; rfl
  | d :: ds, ns, h => by
    cases d <;> simp [ints?] at h
    obtain ⟨m, h1, rfl⟩ := h
    rw [ints_eq h1]
    rfl
theorem bls_eq : ∀ {ds : List D} {ns : List Bool}, bls? ds = some ns → ds = ns.map .bl
  | [], ns, h => by cases h; rfl
  | d :: ds, ns, h => by
    cases d <;> simp [bls?] at h
    obtain ⟨m, h1, rfl⟩ := h
    rw [bls_eq h1]
    rfl
theorem ints_map : ∀ ns : List Int, ints? (ns.map .int) = some ns
  | [] => rfl
  | n :: ns => by simp [ints?, ints_map ns]
theorem bls_map : ∀ ns : List Bool, bls? (ns.map .bl) = some ns
  | [] => rfl
  | n :: ns => by simp [bls?, bls_map ns]
theorem CaD.or {K : PySem.W.Frag} {r r' : List V → Hp → VK → Prop} {o o' : List D → Option D} (a : CaD K r o) (b : CaD K r' o') : CaD K (fun xs H Q => r xs H Q ∨ r' xs H Q) (fun xs => (o xs).or (o' xs)) := by
  intro Z H xs ds d z rs e Q f
  cases q : o ds with
  | some d1 =>
    have e' : d1 = d := by simpa [q] using e
    subst e'
    exact .inl (a Z H xs ds _ z rs q Q f)
  | none => exact .inr (b Z H xs ds d z rs (by simpa [q] using e) Q f)
theorem CaW.d {K : PySem.W.Frag} {r : List V → Hp → VK → Prop} {o : List D → Option (List D)} (a : CaW K r o) : CaD K r (fun xs => (o xs).map .lst) := by
  intro Z H xs ds d z rs e Q k
  have e : (o ds).map D.lst = some d := e
  cases q : o ds with
  | none => rw [q] at e; cases e
  | some ys =>
    rw [q] at e
    cases e
    exact a Z H xs ds ys z rs q Q (FinL.fin z k)
theorem CaW.or {K : PySem.W.Frag} {r r' : List V → Hp → VK → Prop} {o o' : List D → Option (List D)} (a : CaW K r o) (b : CaW K r' o') : CaW K (fun xs H Q => r xs H Q ∨ r' xs H Q) (fun xs => (o xs).or (o' xs)) := by
  intro Z H xs ds d z rs e Q f
  cases q : o ds with
  | some d1 =>
    have e' : d1 = d := by simpa [q] using e
    subst e'
    exact .inl (a Z H xs ds _ z rs q Q f)
  | none => exact .inr (b Z H xs ds d z rs (by simpa [q] using e) Q f)
/-- len -/
def oLen : List D → Option D
  | [.str s] => if s.length ≤ sizeLine then some (.int s.length) else none
  | [.dk kds] => some (.int kds.length)
  | [.dt kds] => some (.int kds.length)
  | [d] => (sq? d).map fun xs => .int xs.length
  | _ => none
def rLenQ (K : PySem.W.Frag) : List V → Hp → VK → Prop := fun xs H Q => ∃ p ys, xs = [.ref p] ∧ (SqL K H p ys ∨ SqT K H p ys) ∧ Q (.int ys.length) H
def rLenZ : List V → Hp → VK → Prop := fun xs H Q => ∃ z, xs = [.str z] ∧ z.length ≤ sizeLine ∧ Q (.int z.length) H
def rLenK : List V → Hp → VK → Prop := fun xs H Q => ∃ a kvs, xs = [V.ref a] ∧ H a = some (.dK kvs) ∧ Q (.int kvs.length) H
def rLenA (K : PySem.W.Frag) : List V → Hp → VK → Prop := fun xs H Q => ((rLenQ K xs H Q ∨ rLenZ xs H Q) ∨ rLenK xs H Q) ∨ rLenT xs H Q
theorem caR_len {X : Cx} : CallR X (.builtin "len") (rLenA X.K) := ((CallR.or (r := rLenQ X.K) (r' := rLenZ) call_len_seq call_len_str).or (r' := rLenK) call_lenD).or call_len_dT
theorem map_len {κ : Type} {kvs : List (κ × V)} {kds : List (κ × D)} (h : kvs.map (·.1) = kds.map (·.1)) : kvs.length = kds.length := by simpa using congrArg List.length h
theorem cad_len {K : PySem.W.Frag} : CaD K (rLenA K) oLen := fun Z H xs ds d z rs e Q k => by
  cases rs with
  | nil => cases e
  | cons r1 rs =>
    cases rs with
    | cons _ _ =>
      rename_i d1 d2 ds' _ _
      cases d1 <;> simp [oLen] at e
    | nil =>
      cases r1 with
      | str s =>
        simp only [oLen] at e
        split at e
        · rename_i h; cases e; exact .inl (.inl (.inr ⟨s, rfl, h, k.now z (.int _)⟩))
        · cases e
      | dk h hk hr =>
        cases e
        refine .inl (.inr ⟨_, _, rfl, z _ _ h, ?_⟩)
        rw [map_len hk]
        exact k.now z (.int _)
      | dt h hk hr =>
        cases e
        refine .inr ⟨_, _, rfl, z _ _ h, ?_⟩
        rw [map_len hk]
        exact k.now z (.int _)
      | tup h hr =>
        cases e
        refine .inl (.inl (.inl ⟨_, _, rfl, .inr (.of (z _ _ h)), ?_⟩))
        rw [hr.length]
        exact k.now z (.int _)
      | xtp h hr =>
        cases e
        refine .inl (.inl (.inl ⟨_, _, rfl, .inr (z.sqT h), ?_⟩))
        rw [hr.length]
        exact k.now z (.int _)
      | lst h hr =>
        cases e
        refine .inl (.inl (.inl ⟨_, _, rfl, .inl (.of (z _ _ h)), ?_⟩))
        rw [hr.length]
        exact k.now z (.int _)
      | xls h hr =>
        cases e
        refine .inl (.inl (.inl ⟨_, _, rfl, .inl (z.sqL h), ?_⟩))
        rw [hr.length]
        exact k.now z (.int _)
      | _ => simp [oLen, sq?, sqT?, sqL?] at e
/-- of one list of whole numbers, of bools -/
def oI1 (f : List Int → Option D) : List D → Option D
  | [d] => (sqL? d).bind fun xs => (ints? xs).bind f
  | _ => none
def oB1 (f : List Bool → Option D) : List D → Option D
  | [d] => (sqL? d).bind fun xs => (bls? xs).bind f
  | _ => none
theorem oI1_inv {K : PySem.W.Frag} {f : List Int → Option D} {vs : List V} {ds : List D} {d : D} (z : Zle Z H) (r : Reps K Z vs ds) (e : oI1 f ds = some d) : ∃ a ns, vs = [V.ref a] ∧ SqL K H a (ns.map V.int) ∧ f ns = some d := by
  unfold oI1 at e
  split at e
  · obtain ⟨xs, h1, h2⟩ := Option.bind_eq_some_iff.mp e
    obtain ⟨ns, h3, h4⟩ := Option.bind_eq_some_iff.mp h2
    cases r with
    | cons r1 r2 =>
      cases r2
      obtain ⟨a, us, rfl, hs, hr⟩ := r1.sqL z h1
      have := ints_eq h3
      subst this
      have := hr.ints_inv
      subst this
      exact ⟨a, ns, rfl, hs, h4⟩
  · cases e
theorem oB1_inv {K : PySem.W.Frag} {f : List Bool → Option D} {vs : List V} {ds : List D} {d : D} (z : Zle Z H) (r : Reps K Z vs ds) (e : oB1 f ds = some d) : ∃ a ns, vs = [V.ref a] ∧ SqL K H a (ns.map V.bl) ∧ f ns = some d := by
  unfold oB1 at e
  split at e
  · obtain ⟨xs, h1, h2⟩ := Option.bind_eq_some_iff.mp e
    obtain ⟨ns, h3, h4⟩ := Option.bind_eq_some_iff.mp h2
    cases r with
    | cons r1 r2 =>
      cases r2
      obtain ⟨a, us, rfl, hs, hr⟩ := r1.sqL z h1
      have := bls_eq h3
      subst this
      have := hr.bls_inv
      subst this
      exact ⟨a, ns, rfl, hs, h4⟩
  · cases e
def oSum := oI1 fun ns => some (.int ns.sum)
def oAll := oB1 fun bs => some (.bl (bs.all id))
def oAny := oB1 fun bs => some (.bl (bs.any id))
theorem cad_sum {K : PySem.W.Frag} : CaD K (rSum K) oSum := fun Z H xs ds d z rs e Q k => by
  obtain ⟨a, ns, rfl, h, e2⟩ := oI1_inv z rs e
  cases e2
  exact ⟨a, ns, rfl, h, k.now z (.int _)⟩
theorem cad_all {K : PySem.W.Frag} : CaD K (rAll K) oAll := fun Z H xs ds d z rs e Q k => by
  obtain ⟨a, ns, rfl, h, e2⟩ := oB1_inv z rs e
  cases e2
  exact ⟨a, ns, rfl, h, k.now z (.bl _)⟩
theorem cad_any {K : PySem.W.Frag} : CaD K (rAny K) oAny := fun Z H xs ds d z rs e Q k => by
  obtain ⟨a, ns, rfl, h, e2⟩ := oB1_inv z rs e
  cases e2
  exact ⟨a, ns, rfl, h, k.now z (.bl _)⟩
def oMax2 : List D → Option D
  | [.int i, .int j] => some (.int (if j > i then j else i))
  | _ => none
def oMin2 : List D → Option D
  | [.int i, .int j] => some (.int (if j < i then j else i))
  | _ => none
def oMaxL := oI1 fun ns => ns.max?.map .int
def oMinL := oI1 fun ns => ns.min?.map .int
def rMax2 : List V → Hp → VK → Prop := fun xs H Q => ∃ i j, xs = [.int i, .int j] ∧ Q (.int (if j > i then j else i)) H
def rMin2 : List V → Hp → VK → Prop := fun xs H Q => ∃ i j, xs = [.int i, .int j] ∧ Q (.int (if j < i then j else i)) H
theorem cad_max2 {K : PySem.W.Frag} : CaD K rMax2 oMax2 := fun Z H xs ds d z rs e Q k => by
  unfold oMax2 at e
  split at e
  · cases rs with
    | cons r1 rs =>
      cases rs with
      | cons r2 rs =>
        cases rs; cases r1; cases r2; cases e
        exact ⟨_, _, rfl, k.now z (.int _)⟩
  · cases e
theorem cad_min2 {K : PySem.W.Frag} : CaD K rMin2 oMin2 := fun Z H xs ds d z rs e Q k => by
  unfold oMin2 at e
  split at e
  · cases rs with
    | cons r1 rs =>
      cases rs with
      | cons r2 rs =>
        cases rs; cases r1; cases r2; cases e
        exact ⟨_, _, rfl, k.now z (.int _)⟩
  · cases e
theorem cad_maxL {K : PySem.W.Frag} : CaD K (rMax K) oMaxL := fun Z H xs ds d z rs e Q k => by
  obtain ⟨a, ns, rfl, h, e2⟩ := oI1_inv z rs e
  obtain ⟨m, h1, rfl⟩ := Option.map_eq_some_iff.mp e2
  refine ⟨a, ns, rfl, h, ?_, fun m' hm hle => ?_⟩
  · cases ns with
    | nil => cases h1
    | cons _ _ => simp
  · have hm2 := List.max?_eq_some_iff.mp h1
    have : m' = m := Int.le_antisymm (hm2.2 m' hm) (hle m hm2.1)
    subst this
    exact k.now z (.int _)
theorem cad_minL {K : PySem.W.Frag} : CaD K (rMin K) oMinL := fun Z H xs ds d z rs e Q k => by
  obtain ⟨a, ns, rfl, h, e2⟩ := oI1_inv z rs e
  obtain ⟨m, h1, rfl⟩ := Option.map_eq_some_iff.mp e2
  refine ⟨a, ns, rfl, h, ?_, fun m' hm hle => ?_⟩
  · cases ns with
    | nil => cases h1
    | cons _ _ => simp
  · have hm2 := List.min?_eq_some_iff.mp h1
    have : m' = m := Int.le_antisymm (hle m hm2.1) (hm2.2 m' hm)
    subst this
    exact k.now z (.int _)
def oMax (xs : List D) : Option D := (oMax2 xs).or (oMaxL xs)
def oMin (xs : List D) : Option D := (oMin2 xs).or (oMinL xs)
def rMaxA (K : PySem.W.Frag) : List V → Hp → VK → Prop := fun xs H Q => rMax2 xs H Q ∨ rMax K xs H Q
def rMinA (K : PySem.W.Frag) : List V → Hp → VK → Prop := fun xs H Q => rMin2 xs H Q ∨ rMin K xs H Q
theorem cad_max {K : PySem.W.Frag} : CaD K (rMaxA K) oMax := cad_max2.or cad_maxL
theorem cad_min {K : PySem.W.Frag} : CaD K (rMinA K) oMin := cad_min2.or cad_minL
theorem caR_max {X : Cx} (h : X.calm = true) : CallR X (.builtin "max") (rMaxA X.K) := CallR.or (r := rMax2) (call_max2 h) (cr_max h)
theorem caR_min {X : Cx} (h : X.calm = true) : CallR X (.builtin "min") (rMinA X.K) := CallR.or (r := rMin2) (call_min2 h) (cr_min h)
def oAbs : List D → Option D
  | [.int i] => some (.int (if i < 0 then -i else i))
  | _ => none
def rAbs : List V → Hp → VK → Prop := fun xs H Q => ∃ i, xs = [.int i] ∧ Q (.int (if i < 0 then -i else i)) H
theorem cad_abs {K : PySem.W.Frag} : CaD K rAbs oAbs := fun Z H xs ds d z rs e Q k => by
  unfold oAbs at e
  split at e
  · cases rs with
    | cons r1 rs => cases rs; cases r1; cases e; exact ⟨_, rfl, k.now z (.int _)⟩
  · cases e
def oIntC : List D → Option D
  | [.int i] => some (.int i)
  | [.bl k] => some (.int (if k then 1 else 0))
  | _ => none
def rIntC : List V → Hp → VK → Prop := fun xs H Q => (∃ i, xs = [.int i] ∧ Q (.int i) H) ∨ ∃ k, xs = [.bl k] ∧ Q (.int (if k then 1 else 0)) H
theorem cad_int {K : PySem.W.Frag} : CaD K rIntC oIntC := fun Z H xs ds d z rs e Q k => by
  unfold oIntC at e
  split at e
  · cases rs with
    | cons r1 rs => cases rs; cases r1; cases e; exact .inl ⟨_, rfl, k.now z (.int _)⟩
  · cases rs with
    | cons r1 rs => cases rs; cases r1; cases e; exact .inr ⟨_, rfl, k.now z (.int _)⟩
  · cases e
/-! ### list(..), tuple(..) -/
theorem Gr.proms {K : PySem.W.Frag} (z : Zle Z H) : ∀ {kvs : List (List Key × V)} {bs : List Addr}, IsKeys H kvs bs → ∃ Z', Gr Z H Z' H ∧ Reps K Z' (bs.map V.ref) (kvs.map fun p => .tup (p.1.map kD))
  | _, _, .nil => ⟨Z, .refl z, .nil⟩
  | _, _, .cons (a := p) (b := b) h r => by
    obtain ⟨Z1, g1, r1⟩ := Gr.proms (K := K) z r
    have zl : Zle Z1 (zAdd Z1 H [b]) := fun a o q => by
      by_cases ha : a ∈ [b]
      · rw [zAdd_in ha]; exact g1.zh a o q
      · rw [zAdd_out ha]; exact q
    refine ⟨zAdd Z1 H [b], ⟨g1.z.trans zl, fun _ _ e => e, fun a o q => ?_, fun a o q => ?_⟩, .cons (.tup (vs := p.1.map kV) (by rw [zAdd_in (by simp)]; exact h) ?_) (r1.mono zl)⟩
    · by_cases ha : a ∈ [b]
      · rw [zAdd_in ha] at q; exact q
      · rw [zAdd_out ha] at q; exact g1.zh a o q
    · by_cases ha : a ∈ [b]
      · rw [zAdd_in ha] at q
        have : a = b := by simpa using ha
        subst this
        rw [h] at q
        cases q
        exact .inr (.inr (.tup _))
      · rw [zAdd_out ha] at q; exact g1.nw a o q
    · generalize p.1 = ks
      induction ks with
      | nil => exact .nil
      | cons k ks ih => exact .cons (Rep.kD k) ih
def oList : List D → Option (List D)
  | [.dk kds] => some (kds.map fun p => kD p.1)
  | [.dt kds] => some (kds.map fun p => .tup (p.1.map kD))
  | [d] => sq? d
  | _ => none
/-- a new list, data may have come -/
def FinL2 (K : PySem.W.Frag) (Z H : Hp) (xs : List D) (Q : VK) : Prop := ∀ p vs Z', H p = none → Gr Z H Z' H → Reps K Z' vs xs → Q (.ref p) (upd H p (.lst vs))
def CaW2 (K : PySem.W.Frag) (r : List V → Hp → VK → Prop) (o : List D → Option (List D)) : Prop := ∀ Z H xs ds d, Zle Z H → Reps K Z xs ds → o ds = some d → ∀ Q, FinL2 K Z H d Q → r xs H Q
theorem sem_callL2 {t : TA} {r : List V → Hp → VK → Prop} {o : List D → Option (List D)} (hr : CaW2 g.K r o) (s : SemA g t fs) : SemW g (tCB r t) (fCallL o fs) := fun fx Z H ρ σ ex w rr e x Q k => by
  show t σ H fun vs H1 => r vs H1 Q
  refine sa_run s w e x fun ds ρ1 vs Z1 H1 e1 m1 r1 x1 => ?_
  obtain ⟨d', h1, h2⟩ := of_some e1
  cases q : o ds with
  | none => rw [q] at h1; cases h1
  | some xs =>
    rw [q] at h1
    cases h1
    exact hr Z1 H1 vs ds xs m1.zh r1 q Q fun p us Z2 hp g2 ru => k.list h2 (m1.gr g2) p us hp ru
theorem sw_callTy2 {r : List V → Hp → VK → Prop} {T : String} {o : List D → Option (List D)} (hc : ∀ X, Is g X → CallR X (.type T) r) (hr : CaW2 g.K r o) (hg : g.sc.names.lookup x = some .globalImplicit) (hm : g.mg x = none) (hv : bootBuiltins x = some (.type T)) (ha : SA g (e :: es) fs)
    (hn : x ≠ "__name__" := by decide) (hdb : (x == ("__debug__" : Str)) = false := by decide) (he : ∀ env, starEach (e :: es) env = (false, eval e env) :: starEach es env := by intro _; rfl) (hpl : ∀ env, (backTo pos (starEach es env)).any (·.1) = false := by intro _; rfl) :
    SW g (.Call (.Name x p) (e :: es) [] pos) (fCallL o fs) := by
  obtain ⟨t, pt, s⟩ := ha
  exact ⟨tCB r t, fun X is => pe_callTy (hc X is) (is.gl hg) (by rw [is.mg]; exact hm) hv (pt X is) hn hdb (he _) (hpl _), sem_callL2 hr s⟩
def rListQ (K : PySem.W.Frag) : List V → Hp → VK → Prop := fun xs H Q => ∃ p ys, xs = [.ref p] ∧ (SqL K H p ys ∨ SqT K H p ys) ∧ ∀ l, H l = none → Q (.ref l) (upd H l (.lst ys))
def rListK : List V → Hp → VK → Prop := fun xs H Q => ∃ (a : Addr) (kvs : List (Key × V)), xs = [.ref a] ∧ Rd H a (.dK kvs) ∧ ∀ p, H p = none → Q (.ref p) (upd H p (.lst (kvs.map fun kv => kV kv.1)))
def rListT : List V → Hp → VK → Prop := fun xs H Q => ∃ d kvs, xs = [V.ref d] ∧ Rd H d (.dT kvs) ∧ ∀ p bs, H p = none → IsKeys H kvs bs → Q (.ref p) (upd H p (.lst (bs.map V.ref)))
def rListA (K : PySem.W.Frag) : List V → Hp → VK → Prop := fun xs H Q => (rListQ K xs H Q ∨ rListK xs H Q) ∨ rListT xs H Q
theorem caR_list {X : Cx} (h : X.calm = true) : CallR X (.type "list") (rListA X.K) := ((CallR.or (r := rListQ X.K) (r' := rListK) call_list_of (call_listD h))).or (r' := rListT) (call_list_dT h)
theorem caw_list {K : PySem.W.Frag} : CaW2 K (rListA K) oList := fun Z H xs ds d z rs e Q k => by
  cases rs with
  | nil => cases e
  | cons r1 rs =>
    cases rs with
    | cons _ _ =>
      rename_i d1 d2 ds' _ _
      cases d1 <;> simp [oList] at e
    | nil =>
      have seq : ∀ v0 d0, Rep K Z v0 d0 → sq? d0 = some d → rListA K [v0] H Q := fun v0 d0 r0 h0 => by
        refine .inl (.inl ?_)
        rcases sq_cases h0 with q | q
        · obtain ⟨a, vs, rfl, hs, hr⟩ := r0.sqT z q
          exact ⟨a, vs, rfl, .inr hs, fun l hl => k l vs Z hl (.refl z) hr⟩
        · obtain ⟨a, vs, rfl, hs, hr⟩ := r0.sqL z q
          exact ⟨a, vs, rfl, .inl hs, fun l hl => k l vs Z hl (.refl z) hr⟩
      cases r1 with
      | @dk a kvs kds h hk hr =>
        cases e
        refine .inl (.inr ⟨_, _, rfl, .inl (z _ _ h), fun p hp => k p _ Z hp (.refl z) ?_⟩)
        have : ∀ {kvs : List (Key × V)} {kds : List (Key × D)}, kvs.map (·.1) = kds.map (·.1) → Reps K Z (kvs.map fun kv => kV kv.1) (kds.map fun p => kD p.1) := by
          intro kvs
          induction kvs with
          | nil => intro kds h; cases kds with | nil => exact .nil | cons _ _ => simp at h
          | cons q kvs ih =>
            intro kds h
            cases kds with
            | nil => simp at h
            | cons q2 kds =>
              simp only [List.map_cons, List.cons.injEq] at h
              simp only [List.map_cons]
              refine .cons ?_ (ih h.2)
              rw [← h.1]
              exact Rep.kD _
        exact this hk
      | @dt a kvs kds h hk hr =>
        cases e
        refine .inr ⟨_, _, rfl, .inl (z _ _ h), fun p bs hp hb => ?_⟩
        obtain ⟨Z1, g1, r1⟩ := Gr.proms (K := K) z hb
        refine k p _ Z1 hp g1 ?_
        have : kvs.map (fun p => D.tup (p.1.map kD)) = kds.map (fun p => D.tup (p.1.map kD)) := by
          have := congrArg (List.map fun (q : List Key) => D.tup (q.map kD)) hk
          rw [List.map_map, List.map_map] at this
          exact this
        rw [← this]
        exact r1
      | tup h hr => exact seq _ _ (.tup h hr) e
      | xtp h hr => exact seq _ _ (.xtp h hr) e
      | lst h hr => exact seq _ _ (.lst h hr) e
      | xls h hr => exact seq _ _ (.xls h hr) e
      | _ => simp [oList, sq?, sqT?, sqL?] at e
def oTuple : List D → Option D
  | [.tup xs] => some (.tup xs)
  | [d] => (sqL? d).map .tup
  | _ => none
def rTuple (K : PySem.W.Frag) : List V → Hp → VK → Prop := fun xs H Q => ∃ p ys, xs = [.ref p] ∧ ((SqL K H p ys ∧ ∀ l, H l = none → Q (.ref l) (upd H l (.tup ys))) ∨ (SqT K H p ys ∧ Q (.ref p) H))
theorem caR_tuple {X : Cx} : CallR X (.type "tuple") (rTuple X.K) := call_tuple_of
theorem cad_tuple {K : PySem.W.Frag} : CaD K (rTuple K) oTuple := fun Z H xs ds d z rs e Q k => by
  cases rs with
  | nil => cases e
  | cons r1 rs =>
    cases rs with
    | cons _ _ =>
      rename_i d1 d2 ds' _ _
      cases d1 <;> simp [oTuple] at e
    | nil =>
      have seq : ∀ v0 d0, Rep K Z v0 d0 → (sqL? d0).map D.tup = some d → rTuple K [v0] H Q := fun v0 d0 r0 h0 => by
        obtain ⟨ys, h1, rfl⟩ := Option.map_eq_some_iff.mp h0
        obtain ⟨a, vs, rfl, hs, hr⟩ := r0.sqL z h1
        exact ⟨a, vs, rfl, .inl ⟨hs, fun l hl => FinL.tup z k hl hr⟩⟩
      cases r1 with
      | tup h hr => cases e; exact ⟨_, _, rfl, .inr ⟨.of (z _ _ h), k.now z (.tup h hr)⟩⟩
      | lst h hr => exact seq _ _ (.lst h hr) e
      | xls h hr => exact seq _ _ (.xls h hr) e
      | _ => simp [oTuple, sqL?] at e
end
end FL
set_option Elab.async false
set_option linter.all false
set_option maxRecDepth 100000
set_option maxHeartbeats 1000000
/-! FL13: name = [..]; objects; raise -/
namespace FL
open PySem PySem.Spec PyProof.Rows L2

section
variable {K : PySem.W.Frag} {fx : Fx} {Z Z' H H' : Hp} {ps : List (Option V)} {ρ : Rho} {σ : L2.St} {fp ex : List Addr}
/-- a thing owned beside the slots is changed as a def says -/
theorem Wd.chEx {f0 f' fn : List Addr} (x : Wd K fx Z H ρ σ (f0 ++ ex)) (c : Ch Z H f0 Z' H' f' fn) : Wd K fx Z' H' ρ σ ((f' ++ fn) ++ ex) ∧ ∀ a ∈ ex, H' a = H a := by
  obtain ⟨fp, h⟩ := x
  have nd := h.nd
  have mm : ∀ a, a ∈ fp ∨ a ∈ ex → a ∈ fp ++ (f0 ++ ex) := fun a ha => by
    simp only [List.mem_append]
    grind
  have dis : ∀ a, a ∈ fp ∨ a ∈ ex → a ∉ f0 := fun a ha z => by
    simp only [List.nodup_append, List.mem_append] at nd ha
    grind
  have ne : ∀ a, a ∈ fp ∨ a ∈ ex → H' a = H a := fun a ha => by
    cases q : H a with
    | none => exact absurd q (h.th a (mm a ha))
    | some o => exact c.kp a o q (dis a ha)
  have old : ∀ a, a ∈ fp ∨ a ∈ ex → a ∉ f' ∧ a ∉ fn := fun a ha => by
    refine ⟨fun z => ?_, fun z => h.th a (mm a ha) (c.nx a z)⟩
    rcases c.ow a z with q | q
    · exact h.th a (mm a ha) q
    · exact dis a ha q
  have hf0 : ∀ a ∈ f0, fx.H0 a = none := fun a ha => h.xn a (List.mem_append_left _ ha)
  have part : ∀ a, a ∈ fp ++ ((f' ++ fn) ++ ex) → a ∈ f' ++ fn ∨ (a ∈ fp ∨ a ∈ ex) := fun a ha => by
    simp only [List.mem_append] at ha ⊢
    grind
  have none0 : ∀ a, H a = none → fx.H0 a = none := fun a q => by
    cases z : fx.H0 a with
    | none => rfl
    | some u => exact absurd q (h.dm a (by rw [z]; exact fun y => nomatch y))
  refine ⟨⟨fp, ⟨h.sl.keep c.z fun a ha => ne a (.inl ha), ?_, fun a ha => ?_, fun a ha => ?_, fun a ha vs hv => ?_, fun a ha => ?_, c.zh, fun a o q n => ?_, fun a o q => ?_, fun a q => c.dm a (h.dm a q), ?_⟩⟩, fun a ha => ne a (.inr ha)⟩
  · have n2 := c.nd
    simp only [List.nodup_append, List.mem_append] at nd n2 ⊢
    grind
  · rcases part a ha with hf | hm
    · exact c.zn a hf
    · cases q : Z' a with
      | none => rfl
      | some o =>
        rcases c.nw a o q with y | y | nd
        · rw [h.zn a (mm a hm)] at y; cases y
        · exact absurd y (h.th a (mm a hm))
        · have := c.zh a _ q
          rw [ne a hm] at this
          exact absurd this (h.nt a (mm a hm) _ nd.own)
  · rcases part a ha with hf | hm
    · exact c.th a hf
    · rw [ne a hm]; exact h.th a (mm a hm)
  · rcases part a ha with hf | hm
    · exact c.nt a hf vs hv
    · rw [ne a hm]; exact h.nt a (mm a hm) vs hv
  · rcases List.mem_append.mp ha with ha | ha
    · rcases List.mem_append.mp ha with ha | ha
      · rcases c.ow a ha with q | q
        · exact none0 a q
        · exact hf0 a q
      · exact none0 a (c.nx a ha)
    · exact h.xn a (List.mem_append_right _ ha)
  · exact c.kp a o (h.kp a o q n) fun z => by rw [hf0 a z] at q; cases q
  · rcases c.nw a o q with y | y | y
    · exact h.zf a o y
    · exact .inr (.inl (none0 a y))
    · exact .inr (.inr y)
  · intro p hp
    have nown : ∀ a u, H a = some u → NOwn u → a ∉ f0 := fun a u e hu hg => h.nt a (by simp only [List.mem_append]; grind) u hu e
    obtain ⟨ps, t1, t2, t3⟩ := h.tb p hp
    refine ⟨ps, c.kp _ _ t1 (nown _ _ t1 (.tbl ps)), t2, fun pos cv hc => ?_⟩
    obtain ⟨d, e1, e2⟩ := t3 pos cv hc
    exact ⟨d, e1, c.kp _ _ e2 (nown _ _ e2 (.code _ _))⟩
end
section
variable {g : Gm} {fx : Fx} {Z Z' H H' : Hp} {ρ ρ1 : Rho} {σ : L2.St} {ex : List Addr} {α β : Type}
variable {e a b c tg : Expr} {fa fb fc : F D} {pos p : Pos} {es : List Expr} {fs : F (List D)} {ga gb : F Bool} {rest : List Expr} {x : Str} {k n : Nat} {st : Stmt} {sts : List Stmt} {f f1 f2 : FS}
theorem ss_setLc {i : Nat} {y : Str} {py spos : Pos} {iter elt : Expr} {ifs : List Expr} {scope : Scope} {own : List (Str × Nat)} {fi : F (List D)} {ftg : D → Rho → Option Rho} {gt : F Bool} {fe : F D} {js : List Nat} (hN : g.N[i]? = some y) (hl : g.sc.names.lookup y = some .local)
    (hw : ∀ env : Env, env.scope = g.sc → swapsWith (.ListComp elt [⟨tg, iter, ifs, 0⟩] scope pos) (some (.Name y py)) spos.line env = pure true)
    (hi : SI g tg iter fi) (ok : BlkOk g.N g.sc scope own)
    (hg : SG (g.blk scope) tg ftg js) (hj : ∀ j ∈ js, j ∈ own.map (·.2)) (ht : STs (g.blk scope) ifs gt) (he : SE (g.blk scope) elt fe) (hs : ∀ env x, foldedSetIterable iter env x = pure x := by intro _ _; rfl) :
    SS g (.Assign [.Name y py] (.ListComp elt [⟨tg, iter, ifs, 0⟩] scope pos) spos) (fSet i (fLc fi ftg gt fe (own.map (·.2)))) := by
  obtain ⟨wi, pi, si⟩ := hi
  obtain ⟨tgt, pg, sg⟩ := hg
  obtain ⟨tt, pt, st⟩ := ht
  obtain ⟨te, pe, se⟩ := he
  refine ⟨tAsg (tLc wi tgt tt te (own.map (·.2))) (gName i), fun X is => ?_, sem_set (sem_lc si sg hj st se)⟩
  exact ps_setLc is.calm (by rw [is.N]; exact is.nd) (by rw [is.N]; exact hN) (by rw [is.sc]; exact hl) (hw _ is.sc) (pi X is) (by rw [is.N, is.sc]; exact ok) (fun s H C cl fp => pg _ (is.blk scope s H cl C fp)) (fun s H C cl fp => pt _ (is.blk scope s H cl C fp)) (fun s H C cl fp => pe _ (is.blk scope s H cl C fp)) (hs _)

/-! ### fields -/
def putW (f : Str) (w : W) : List (Str × W) → List (Str × W)
  | [] => [(f, w)]
  | (k, x) :: r => if k = f then (k, w) :: r else (k, x) :: putW f w r
/-- fields of data alone -/
def vas? : List (Str × W) → Option (List (Str × D))
  | [] => some []
  | (k, .va d) :: r => (vas? r).map ((k, d) :: ·)
  | _ => none
theorem RepWs.vas {K : PySem.W.Frag} : ∀ {fs : List (Str × V)} {ws : List (Str × W)} {ds : List (Str × D)} {fp : List Addr}, fs.map (·.1) = ws.map (·.1) → RepWs K Z H (fs.map (·.2)) (ws.map (·.2)) fp → vas? ws = some ds → fp = [] ∧ fs.map (·.1) = ds.map (·.1) ∧ Reps K Z (fs.map (·.2)) (ds.map (·.2))
  | [], [], ds, fp, _, r, e => by cases r; cases e; exact ⟨rfl, rfl, .nil⟩
  | [], _ :: _, _, _, h, _, _ => by simp at h
  | _ :: _, [], _, _, h, _, _ => by simp at h
  | (k1, v) :: fs, (k2, w) :: ws, ds, fp, h, r, e => by
    simp only [List.map_cons, List.cons.injEq] at h r
    cases r with
    | cons r1 r2 =>
      cases r1 with
      | va rv =>
        simp only [vas?, Option.map_eq_some_iff] at e
        obtain ⟨ds', e1, rfl⟩ := e
        obtain ⟨i1, i2, i3⟩ := RepWs.vas h.2 r2 e1
        subst i1
        exact ⟨rfl, by simp [h.1, i2], .cons rv i3⟩
      | _ => simp [vas?] at e
theorem RepWs.ofD {K : PySem.W.Frag} (H : Hp) : ∀ {fs : List (Str × V)} {ds : List (Str × D)}, fs.map (·.1) = ds.map (·.1) → Reps K Z (fs.map (·.2)) (ds.map (·.2)) → fs.map (·.1) = (ds.map fun p => (p.1, W.va p.2)).map (·.1) ∧ RepWs K Z H (fs.map (·.2)) ((ds.map fun p => (p.1, W.va p.2)).map (·.2)) []
  | [], [], _, _ => ⟨rfl, .nil⟩
  | [], _ :: _, h, _ => by simp at h
  | _ :: _, [], h, _ => by simp at h
  | (k1, v) :: fs, (k2, d) :: ds, h, r => by
    simp only [List.map_cons, List.cons.injEq] at h r
    cases r with
    | cons r1 r2 =>
      obtain ⟨i1, i2⟩ := RepWs.ofD H h.2 r2
      exact ⟨by simp only [List.map_cons, h.1, i1], .cons (f := []) (fp := []) (.va r1) i2⟩
def putDF (f : Str) (w : D) : List (Str × D) → List (Str × D)
  | [] => [(f, w)]
  | (k, x) :: r => if k = f then (k, w) :: r else (k, x) :: putDF f w r
theorem putF_reps {K : PySem.W.Frag} {f : Str} {v : V} {d : D} (rv : Rep K Z v d) : ∀ {fs : List (Str × V)} {ds : List (Str × D)}, fs.map (·.1) = ds.map (·.1) → Reps K Z (fs.map (·.2)) (ds.map (·.2)) → (putF f v fs).map (·.1) = (putDF f d ds).map (·.1) ∧ Reps K Z ((putF f v fs).map (·.2)) ((putDF f d ds).map (·.2))
  | [], [], _, _ => by rw [putF.eq_1]; exact ⟨rfl, .one rv⟩
  | [], _ :: _, h, _ => by simp at h
  | _ :: _, [], h, _ => by simp at h
  | (k1, u) :: fs, (k2, w) :: ds, h, r => by
    simp only [List.map_cons, List.cons.injEq] at h r
    cases r with
    | cons r1 r2 =>
      rw [putF.eq_2]
      unfold putDF
      obtain ⟨h1, h2⟩ := h
      subst h1
      by_cases q : k1 = f
      · rw [if_pos q, if_pos q]
        exact ⟨by simp [h2], .cons rv r2⟩
      · rw [if_neg q, if_neg q]
        obtain ⟨i1, i2⟩ := putF_reps rv h2 r2
        exact ⟨by simp [i1], .cons r1 i2⟩
/-- self.f = e (self in slot i) -/
def fFldPut (i : Nat) (cn f : Str) (fv : F D) : FS := FS.of fv fun d n ρ => match ρ[i]? with
  | some (.so io (.ob c ws)) => if c = cn ∧ ws.length < 1000 then (vas? ws).map fun ds => .nx (ρ.set i (.so io (.ob c ((putDF f d ds).map fun p => (p.1, W.va p.2))))) else none
  | _ => none
theorem ss_fld {i : Nat} {y cn f : Str} {py pt : Pos} (hC : Cls g.K (He.ga g.K cn)) (hn : NoAttr g.K (He.ga g.K cn) f) (hN : g.N[i]? = some y) (hv : Vis g.sc y) (he : SE g e fa)
    (hd : (y == ("__debug__" : Str)) = false := by decide) (hcd : (y == ("__classdict__" : Str)) = false := by decide)
    (hs : ∀ env, swapsWith e (some (.Attribute (.Name y py) f pt)) pos.line env = pure false := by intro _; rfl) : SS g (.Assign [.Attribute (.Name y py) f pt] e pos) (fFldPut i cn f fa) := by
  obtain ⟨te, pe, se⟩ := he
  refine ⟨sFld g.K (tVar i) te f, fun X is => by rw [← is.K]; exact ps_fld (pe_var (by rw [is.N]; exact hN) (is.vis hv) hd hcd) (pe X is) (hs _), fun fx Z H ρ σ w n o e' D ok => ?_⟩
  show te σ H fun y H1 => ∃ v, σ[i]? = some (some v) ∧ ∃ a C dx fs, v = V.ref a ∧ H1 a = some (HO.ins C dx fs) ∧ Cls g.K C ∧ NoAttr g.K C f ∧ fs.length < 1000 ∧ D.nx σ (upd H1 a (HO.ins C dx (putF f y fs)))
  refine s_run se w e' ok fun d ρ1 u Z1 H1 e1 m1 r1 ok1 => ?_
  split at e1
  case h_2 => cases e1
  rename_i io c ws q1
  split at e1
  case isFalse => cases e1
  rename_i hc
  obtain ⟨rfl, hl⟩ := hc
  obtain ⟨ds, h1, h2⟩ := Option.map_eq_some_iff.mp e1
  cases h2
  obtain ⟨v, f0, g1, g2, g3, g4, _, _, g5⟩ := m1.wd.focus q1
  refine ⟨v, g1, ?_⟩
  cases g2 with
  | ob ho hk hr =>
    obtain ⟨i1, i2, i3⟩ := hr.vas hk h1
    subst i1
    have hlen : ∀ {fs : List (Str × V)} {ws : List (Str × W)}, fs.map (·.1) = ws.map (·.1) → fs.length = ws.length := fun h => by simpa using congrArg List.length h
    refine ⟨_, _, _, _, rfl, ho, hC, hn, by rw [hlen hk]; exact hl, ?_⟩
    obtain ⟨p1, p2⟩ := putF_reps r1 i2 i3
    obtain ⟨p3, p4⟩ := RepWs.ofD (upd _ _ _) p1 p2
    obtain ⟨w2, f2⟩ := g5 Z1 _ _ [_] [] (Ch.upd1 m1.zh (by rw [ho]; exact fun q => nomatch q) (g4 _ (by simp))) (.ob upd_same p3 p4)
    exact ok1 Z1 _ σ (.refl _) w2
/-- self.f, self an own object of data fields -/
def fFldO (i : Nat) (cn f : Str) : F D := fun ρ => match ρ[i]? with
  | some (.so _ (.ob c ws)) => if c = cn then ((vas? ws).bind fun ds => ds.lookup f).map (.ok · ρ) else none
  | _ => none
theorem se_fldO {i : Nat} {y cn f : Str} {py : Pos} (hC : Cls g.K (He.ga g.K cn)) (hn : NoAttr g.K (He.ga g.K cn) f) (hN : g.N[i]? = some y) (hv : Vis g.sc y)
    (hd : (y == ("__debug__" : Str)) = false := by decide) (hcd : (y == ("__classdict__" : Str)) = false := by decide) (hb : ∀ env, attributeBase (.Name y py) f env (eval (.Name y py) env) = eval (.Name y py) env := by intro _; rfl) : SE g (.Attribute (.Name y py) f pos) (fFldO i cn f) := by
  refine ⟨tFld g.K (tVar i) f, fun X is => by rw [← is.K]; exact pe_fld (pe_var (by rw [is.N]; exact hN) (is.vis hv) hd hcd) (hb _), fun fx Z H ρ σ ex w r e x Q k => ?_⟩
  show ∃ v, σ[i]? = some (some v) ∧ ∃ a C dx fs u, v = V.ref a ∧ H a = some (.ins C dx fs) ∧ Cls g.K C ∧ NoAttr g.K C f ∧ fs.lookup f = some u ∧ Q u H
  unfold fFldO at e
  split at e
  case h_2 => cases e
  rename_i io c ws q1
  split at e
  case isFalse => cases e
  rename_i hc
  subst hc
  obtain ⟨d, h1, h2⟩ := Option.map_eq_some_iff.mp e
  obtain ⟨ds, h3, h4⟩ := Option.bind_eq_some_iff.mp h1
  cases h2
  obtain ⟨v, f0, g1, g2, _⟩ := w.focus q1
  refine ⟨v, g1, ?_⟩
  cases g2 with
  | ob ho hk hr =>
    obtain ⟨i1, i2, i3⟩ := hr.vas hk h3
    obtain ⟨u, j1, j2⟩ := lookup_reps i2 i3 h4
    exact ⟨_, _, _, _, u, rfl, ho, hC, hn, j1, k d ρ rfl u Z H (.refl w) j2⟩

/-! ### C(..): an object made -/
def CalM (g : Gm) (k : Nat) (x cn : Str) (n : Nat) (sp : Sp) : Prop := ∃ f fd ps, FnOk g.P g.w g.K g.mg g.base (L2.CX g.P g.w) k f fd ps sp ∧ Mk g.K (He.ga g.K cn) f ∧ g.mg x = some (.ref (He.ga g.K cn)) ∧ L2.Binds g.K fd ps [] ∧ ps.length = n
def fMake (cn : Str) (Fn : W → List D → Option RI) (fs : F (List D)) : F W := fs.bind fun ds ρ => match Fn (.ob cn []) ds with
  | some (.ret (.va .non) s) => some (.ok s ρ)
  | some (.exc e _) => some (.ex e ρ)
  | _ => none
theorem sw_make {cn : Str} {Fn : W → List D → Option RI} (h : CalM g k x cn n (spI g.K Fn)) (hk : k + 1 ≤ g.k) (hg : g.sc.names.lookup x = some .globalImplicit) (ha : SA g (e :: es) fs) (hdb : (x == ("__debug__" : Str)) = false := by decide)
    (he : ∀ env, starEach (e :: es) env = (false, eval e env) :: starEach es env := by intro _; rfl) (hpl : ∀ env, (backTo pos (starEach es env)).any (·.1) = false := by intro _; rfl) : SW g (.Call (.Name x p) (e :: es) [] pos) (fMake cn Fn fs) := by
  obtain ⟨t, pt, s⟩ := ha
  obtain ⟨f, fd, ps, Fk, mk, hm, hb, _⟩ := h
  refine ⟨tMake (He.ga g.K cn) (spI g.K Fn) [] g.E t, fun X is => ?_, fun fx Z H ρ σ ex w rr e x Q k => ?_⟩
  · have pass := is.pass
    obtain ⟨h1, h2, h3, h4, h5, _, _, _, _, hr, _⟩ := id is
    rw [← h1, ← h2, ← h3, ← h4, ← h5] at Fk
    rw [← h4] at hm
    rw [← h3] at mk hb hm
    rw [← h1, ← h2] at pass
    have := pe_make (X := X) (p := p) (pos := pos) mk Fk (hr.mono hk) (is.gl hg) hm hb .nil pass (pt X is) hdb (he _) (hpl _)
    rw [h3] at this
    exact this
  · show t σ H fun vs H1 => ∀ (x dx : Addr), H1 x = none → H1 dx = none → dx ≠ x → spI g.K Fn (V.ref x :: (vs ++ [])) (upd (upd H1 dx (HO.own x)) x (HO.ins (He.ga g.K cn) dx [])) (fun v H2 => v = V.non ∧ Q (V.ref x) H2) g.E
    refine sa_run s w e x fun ds ρ1 vs Z1 H1 e1 m1 r1 x1 => ?_
    intro xa dx hx hdx hne
    rw [List.append_nil]
    have m2 := m1.gr (Gr.junk (o := HO.own xa) m1.zh hdx)
    have hx2 : upd H1 dx (HO.own xa) xa = none := by rw [upd_ne hne.symm]; exact hx
    obtain ⟨w3, f3⟩ := m2.new (o := HO.ins (He.ga g.K cn) dx []) hx2
    have hz : Z1 xa = none := by
      cases q : Z1 xa with
      | none => rfl
      | some u => rw [m1.zh xa u q] at hx; cases hx
    split at e1
    · rename_i s' q
      cases e1
      refine ⟨Z1, _, vs, _, [xa], ds, _, rfl, w3.zh, .ob upd_same rfl .nil, by simp, fun a ha => by rw [List.mem_singleton.mp ha]; exact hz, r1, q, fun v Z2 H2 f' fn c rs rv => ?_⟩
      cases rv with
      | va rv =>
        cases rv
        refine ⟨rfl, ?_⟩
        obtain ⟨w4, f4⟩ := w3.chEx c
        rw [List.append_nil] at w4
        exact k s' ρ1 rfl (.ref xa) Z2 H2 f' (m1.z.trans c.z) w4 (fun a ha => (f4 a ha).trans (f3 a ha)) rs
    · rename_i e' s' q
      cases e1
      refine ⟨Z1, _, vs, _, [xa], ds, _, rfl, w3.zh, .ob upd_same rfl .nil, by simp, fun a ha => by rw [List.mem_singleton.mp ha]; exact hz, r1, q, fun cc d Z2 H2 f' c rs er => ?_⟩
      obtain ⟨w4, f4⟩ := w3.chEx c
      exact x1 _ _ rfl cc d Z2 H2 ⟨c.z, w4.drop, fun a ha => (f4 a ha).trans ((f3 a ha).trans (m1.fr a ha).symm)⟩ er
    · cases e1

/-! ### a property -/
def CalG (g : Gm) (k : Nat) (cn pn : Str) (sp : Sp) : Prop := ∃ p f fd ps, PropOf g.K (He.ga g.K cn) pn p f ∧ Cls g.K (He.ga g.K cn) ∧ FnOk g.P g.w g.K g.mg g.base (L2.CX g.P g.w) k f fd ps sp ∧ L2.Binds g.K fd ps [] ∧ ps.length = 1
def fProp (cn : Str) (Fn : List D → Option RP) (fa : F D) : F W := fa.bind fun d ρ => match d with
  | .obj c _ => if c = cn then match Fn [d] with
    | some (.ret w) => some (.ok w ρ)
    | _ => none else none
  | _ => none
theorem sw_prop {cn pn : Str} {Fn : List D → Option RP} (h : CalG g k cn pn (spP g.K Fn)) (hk : k + 1 ≤ g.k) (ha : SE g e fa) (hb : ∀ env, attributeBase e pn env (eval e env) = eval e env := by intro _; rfl) : SW g (.Attribute e pn pos) (fProp cn Fn fa) := by
  obtain ⟨t, pt, s⟩ := ha
  obtain ⟨pp, f, fd, ps, hP, hC, Fk, hbd, _⟩ := h
  refine ⟨tProp (He.ga g.K cn) (spP g.K Fn) [] (fun _ _ _ => False) t, fun X is => ?_, fun fx Z H ρ σ ex w rr e x Q k => ?_⟩
  · obtain ⟨h1, h2, h3, h4, h5, _, _, _, _, hr, _⟩ := id is
    rw [← h1, ← h2, ← h3, ← h4, ← h5] at Fk
    rw [← h3] at hP hC hbd
    have := pe_prop (X := X) (pos := pos) (pt X is) hC hP Fk (hr.mono hk) hbd .nil (E := fun _ _ _ => False) (fun _ _ _ _ _ _ _ ⟨_, _, _, _, _, _, _, _, _, _, _, _, z⟩ => z) (hb _)
    rw [h3] at this
    exact this
  · show t σ H fun x H1 => ∃ a dx fs, x = V.ref a ∧ H1 a = some (HO.ins (He.ga g.K cn) dx fs) ∧ spP g.K Fn (V.ref a :: []) H1 Q fun _ _ _ => False
    refine se_run s w e x fun d ρ1 v Z1 H1 e1 m1 r1 x1 => ?_
    split at e1
    case h_2 => cases e1
    rename_i c fs' 
    split at e1
    case isFalse => cases e1
    rename_i hc
    subst hc
    split at e1
    case h_2 => cases e1
    rename_i w' q
    cases e1
    cases r1 with
    | obj ho hk2 hr =>
      refine ⟨_, _, _, rfl, m1.zh _ _ ho, Z1, _, _, m1.zh, .one (.obj ho hk2 hr), q, fun v Z2 H2 fp c rw' => ?_⟩
      obtain ⟨w2, f2⟩ := m1.wd.ch0 c
      exact k _ ρ1 rfl v Z2 H2 fp (m1.z.trans c.z) w2 (fun a ha => (f2 a ha).trans (m1.fr a ha)) rw'

/-! ### raise X('..') -/
def ExcF (g : Gm) (x cn : Str) : Prop := W.excIn g.K (He.ga g.K cn) [.type "ValueError", .type "Exception", .type "BaseException", .type "object"] "ValueError.__new__" = true ∧ g.mg x = some (.ref (He.ga g.K cn)) ∧ W.keepIn g.K (.ref (He.ga g.K cn)) = true ∧
  W.subIn g.K (.ref (He.ga g.K cn)) (.type "BaseException") = some true ∧ W.typeIn g.K (.ref (He.ga g.K cn)) = some (.type "type")
def fRaise (cn : Str) : FS := fun _ ρ => some (.ex ⟨cn, none⟩ ρ)
theorem ss_raise {cn m : Str} {j : Nat} {p2 pr : Pos} (h : ExcF g x cn) (hg : g.sc.names.lookup x = some .globalImplicit) (hdb : (x == ("__debug__" : Str)) = false := by decide) : SS g (.Raise (some (.Call (.Name x p) [.Constant (.str m) j p2] [] pos)) none pr) (fRaise cn) := by
  obtain ⟨h1, h2, h3, h4, h5⟩ := h
  refine ⟨fun _ σ H => g.E (.ref (He.ga g.K cn)) none H, fun X is => ?_, fun fx Z H ρ σ w n o e D ok => ?_⟩
  · rw [← is.K] at h1 h3 h4 h5 h2 ⊢
    rw [← is.mg] at h2
    exact ps_raise is.calm is.tk (pmk_own PySem.F.excBase_ValueError h1 h2 h3 (raises_own h4 h5) (is.gl hg) hdb)
  · cases e
    exact ok _ _ Z H σ (.refl _) w ⟨rfl, rfl⟩
end
end FL
set_option Elab.async false
set_option linter.all false
set_option maxRecDepth 100000
set_option maxHeartbeats 1000000
/-! FL14: from a body to what the def promises -/
namespace FL
open PySem PySem.Spec PyProof.Rows L2

def fuel : Nat := 2 ^ 64
def initP (n : Nat) (ds : List D) : Rho := ds.map (fun d => .so false (.va d)) ++ List.replicate (n - ds.length) .no
def initI (n : Nat) (w : W) (ds : List D) : Rho := .so true w :: (ds.map (fun d => .so false (.va d)) ++ List.replicate (n - (ds.length + 1)) .no)
def outP : Out → Option RP
  | .nx _ => some (.ret (.va .non))
  | .rt w _ => some (.ret w)
  | .ex e _ => some (.exc e)
  | _ => none
def outI : Out → Option RI
  | .nx ρ => match (ρ[0]? : Option Sl) with
    | some (.so true s) => some (.ret (.va .non) s)
    | _ => none
  | .rt w ρ => match (ρ[0]? : Option Sl) with
    | some (.so true s) => some (.ret w s)
    | _ => none
  | .ex e ρ => match (ρ[0]? : Option Sl) with
    | some (.so true s) => some (.exc e s)
    | _ => none
  | _ => none
/-- the def with n parameters, m names -/
def runP (n m : Nat) (f : FS) (ds : List D) : Option RP := if ds.length = n then (f fuel (initP m ds)).bind outP else none
def runI (n m : Nat) (f : FS) (w : W) (ds : List D) : Option RI := if ds.length + 1 = n then (f fuel (initI m w ds)).bind outI else none

section
variable {K : PySem.W.Frag} {fx : Fx} {Z Z' H H' : Hp} {ps : List (Option V)} {ρ : Rho} {σ : L2.St} {fp ex : List Addr}
theorem slots_no : ∀ n : Nat, Slots K fx Z H (List.replicate n none) (List.replicate n .no) (List.replicate n none) []
  | 0 => .nil
  | n + 1 => by
    simp only [List.replicate_succ]
    exact .no (slots_no n)
theorem slots_ds (n : Nat) : ∀ {vs : List V} {ds : List D}, Reps K Z vs ds → Slots K fx Z H (List.replicate (vs.length + n) none) (ds.map (fun d => .so false (.va d)) ++ List.replicate n .no) (vs.map some ++ List.replicate n none) []
  | _, _, .nil => by simpa using slots_no n
  | _, _, .cons h r => by
    have := slots_ds n r
    rw [List.length_cons, Nat.succ_add, List.replicate_succ]
    exact .so (f := []) (fp := []) (.va h) (fun a ha => by simp at ha) (fun q => by cases q) this
theorem wd_initP {N : List Str} {vs : List V} {ds : List D} (z : Zle Z H) (r : Reps K Z vs ds) (hN : vs.length ≤ N.length) : Wd K ⟨Z, H, [], List.replicate N.length none, []⟩ Z H (initP N.length ds) (L2.start N vs) [] := by
  have s := slots_ds (H := H) (fx := ⟨Z, H, [], List.replicate N.length none, []⟩) (N.length - vs.length) r
  rw [Nat.add_sub_cancel' hN] at s
  refine ⟨[], ⟨?_, .nil, fun a ha => by simp at ha, fun a ha => by simp at ha, fun a ha => by simp at ha, fun a ha => by simp at ha, z, fun a o e _ => e, fun a o e => .inl e, fun a n => n, fun _ h => by cases h⟩⟩
  unfold initP
  rw [← r.length]
  exact s
theorem wd_initI {N : List Str} {v0 : V} {w0 : W} {f0 : List Addr} {vs : List V} {ds : List D} (z : Zle Z H) (r0 : RepW K Z H v0 w0 f0) (nd : f0.Nodup) (zn : ∀ a ∈ f0, Z a = none) (nt : ∀ a ∈ f0, ∀ u, NOwn u → H a ≠ some u) (r : Reps K Z vs ds) (hN : vs.length + 1 ≤ N.length) :
    Wd K ⟨Z, H, f0, some v0 :: List.replicate (N.length - 1) none, []⟩ Z H (initI N.length w0 ds) (L2.start N (v0 :: vs)) [] := by
  have s := slots_ds (H := H) (fx := ⟨Z, H, f0, some v0 :: List.replicate (N.length - 1) none, []⟩) (N.length - (vs.length + 1)) r
  have e : vs.length + (N.length - (vs.length + 1)) = N.length - 1 := by omega
  rw [e] at s
  refine ⟨f0, ⟨?_, by simpa using nd, fun a ha => zn a (by simpa using ha), fun a ha => r0.there a (by simpa using ha), fun a ha => nt a (by simpa using ha), fun a ha => by simp at ha, z, fun a o e _ => e, fun a o e => .inl e, fun a n => n, fun _ h => by cases h⟩⟩
  unfold initI L2.start
  rw [← r.length, List.length_cons]
  have := Slots.so (io := true) (p := some v0) (fx := ⟨Z, H, f0, some v0 :: List.replicate (N.length - 1) none, []⟩) r0 (fun a ha => .inr ⟨rfl, ha⟩) (fun _ => rfl) s
  rw [List.append_nil] at this
  exact this
mutual
theorem RepW.nt : ∀ {v : V} {w : W} {fp : List Addr}, RepW K Z H v w fp → ∀ a ∈ fp, ∀ u, NOwn u → H a ≠ some u
  | _, _, _, .va _, _, ha, _, _ => by cases ha
  | _, _, _, .ls h _, a, ha, vs, hv => by rw [List.mem_singleton.mp ha, h]; rintro z; rcases hv with ⟨_, rfl⟩ | ⟨_, rfl⟩ | ⟨_, _, rfl⟩ <;> cases z
  | _, _, _, .dk h _ _, a, ha, vs, hv => by rw [List.mem_singleton.mp ha, h]; rintro z; rcases hv with ⟨_, rfl⟩ | ⟨_, rfl⟩ | ⟨_, _, rfl⟩ <;> cases z
  | _, _, _, .dt h _ _, a, ha, vs, hv => by rw [List.mem_singleton.mp ha, h]; rintro z; rcases hv with ⟨_, rfl⟩ | ⟨_, rfl⟩ | ⟨_, _, rfl⟩ <;> cases z
  | _, _, _, .ob h _ r, a, ha, vs, hv => by
    rcases List.mem_cons.mp ha with e | ha
    · rw [e, h]; rintro z; rcases hv with ⟨_, rfl⟩ | ⟨_, rfl⟩ | ⟨_, _, rfl⟩ <;> cases z
    · exact RepWs.nt r a ha vs hv
theorem RepWs.nt : ∀ {vs : List V} {ws : List W} {fp : List Addr}, RepWs K Z H vs ws fp → ∀ a ∈ fp, ∀ u, NOwn u → H a ≠ some u
  | _, _, _, .nil, _, ha, _, _ => by cases ha
  | _, _, _, .cons h r, a, ha, vs, hv => by
    rcases List.mem_append.mp ha with ha | ha
    · exact RepW.nt h a ha vs hv
    · exact RepWs.nt r a ha vs hv
end
theorem Wd.endP (z : Zle Z Z') (x : Wd K ⟨Z, H, [], ps, []⟩ Z' H' ρ σ fp) : Ch Z H [] Z' H' [] fp := by
  obtain ⟨f, h⟩ := x
  have m : ∀ a, a ∈ [] ++ fp → a ∈ f ++ fp := fun a ha => by
    simp only [List.mem_append] at ha ⊢
    grind
  refine ⟨z, h.zh, h.kp, ?_, fun a ha => h.zn a (m a ha), fun a ha => h.th a (m a ha), fun a ha => h.nt a (m a ha), fun a ha => by simp at ha, h.xn, h.zf, h.dm⟩
  have := h.nd
  simp only [List.nodup_append] at this ⊢
  simp [this.2.1]
theorem Wd.endI {v0 : V} {f0 : List Addr} {s : W} (z : Zle Z Z') (x : Wd K ⟨Z, H, f0, some v0 :: ps, []⟩ Z' H' ρ σ fp) (e : ρ[0]? = some (.so true s)) : ∃ f', Ch Z H f0 Z' H' f' fp ∧ RepW K Z' H' v0 s f' := by
  obtain ⟨f, h⟩ := x
  obtain ⟨v, l, g, r, h1, h2, h3, h4, h5, h6⟩ := h.sl.split e
  have ev : v = v0 := by
    have := h5 rfl
    simpa using this.symm
  subst ev
  have m : ∀ a, a ∈ g ++ fp → a ∈ f ++ fp := fun a ha => by
    rw [h3]
    simp only [List.mem_append] at ha ⊢
    grind
  refine ⟨g, ⟨z, h.zh, h.kp, ?_, fun a ha => h.zn a (m a ha), fun a ha => h.th a (m a ha), fun a ha => h.nt a (m a ha), fun a ha => ?_, h.xn, h.zf, h.dm⟩, h2⟩
  · have := h.nd
    rw [h3] at this
    simp only [List.nodup_append, List.mem_append] at this ⊢
    grind
  · rcases h4 a ha with q | q
    · exact .inl q
    · exact .inr q.2
end

section
variable {P : Program} {w : World} {K : PySem.W.Frag} {mg : Str → Option Value} {base : Heap} {f : Addr} {fd : FuncData} {x qual : Str} {params : Arguments} {body : List Stmt} {scope : Scope} {dvs : List V} {kws : List (Str × V)} {N ps : List Str} {k : Nat} {bf : FS}
/-- what is fixed in a def's body -/
def gmOf (P : Program) (w : World) (K : PySem.W.Frag) (mg : Str → Option Value) (base : Heap) (N : List Str) (scope : Scope) (k : Nat) (E : XK) : Gm := ⟨P, w, K, mg, base, N, scope, k, E, true, fun _ => true⟩
theorem is_cx {cdv : Value} {A : Around} {outer : List Env} {s : Shared} {H : Hp} {E : XK} (S : FnScope N ps scope) (hr : Room k (A.deeper (envOfC qual scope s.heap.objs.size f cdv))) :
    Is (gmOf P w K mg base N scope k E) (cxOf (L2.CX P w) P w K mg base N qual scope f cdv A outer s H E) where
  prog := rfl
  w := rfl
  K := rfl
  mg := rfl
  base := rfl
  N := rfl
  nd := S.nd
  sc := rfl
  calm := rfl
  room := hr
  tk := takes_of rfl rfl rfl rfl
  fn := fun _ _ => rfl
  po := fun _ => passes_of rfl
  st := fun _ => ⟨rfl, rfl, rfl⟩
theorem fn_okP (F : FunD K x qual params body scope dvs kws f fd) (S : FnScope N ps scope) (hN : ps.length ≤ N.length) (hb : ∀ E, SSs (gmOf P w K mg base N scope k E) body bf) : FnOk P w K mg base (L2.CX P w) (k + 1) f fd ps (spP K (runP ps.length N.length bf)) := by
  refine F.ok S (fun vs H Q E ⟨Z, ds, r, _, hr, hf, _⟩ => ?_) (fun cdv A outer s H vs Q E hr ⟨Z, ds, r, z, rs, hf, hk⟩ => ?_)
  · unfold runP at hf
    split at hf
    · rename_i hl; rw [hr.length, hl]
    · cases hf
  · obtain ⟨t, pt, st⟩ := hb E
    refine ⟨t, pt _ (is_cx S hr), ?_⟩
    unfold runP at hf
    split at hf
    case isFalse => cases hf
    rename_i hl
    obtain ⟨o, ho, hr2⟩ := Option.bind_eq_some_iff.mp hf
    refine st _ Z H _ _ (wd_initP z rs (by rw [rs.length, hl]; exact hN)) fuel o ho _ ?_
    cases o with
    | nx ρ' =>
      cases hr2
      exact fun Z' H' σ' z' w' => hk _ Z' H' [] (w'.endP z') (.va .non)
    | rt w ρ' =>
      cases hr2
      exact fun v Z' H' σ' fp z' w' rw' => hk v Z' H' fp (w'.endP z') rw'
    | ex e ρ' =>
      cases hr2
      exact fun c d Z' H' σ' z' w' er => hk c d Z' H' (w'.endP z') er
    | bk ρ' => cases hr2
    | ct ρ' => cases hr2
theorem fn_okI (F : FunD K x qual params body scope dvs kws f fd) (S : FnScope N ps scope) (hN : ps.length ≤ N.length) (hb : ∀ E, SSs (gmOf P w K mg base N scope k E) body bf) : FnOk P w K mg base (L2.CX P w) (k + 1) f fd ps (spI K (runI ps.length N.length bf)) := by
  refine F.ok S (fun vs H Q E ⟨Z, v0, vs', w0, f0, ds, r, e, _, _, _, _, hr, hf, _⟩ => ?_) (fun cdv A outer s H vs Q E hr ⟨Z, v0, vs', w0, f0, ds, r, e, z, r0, nd, zn, rs, hf, hk⟩ => ?_)
  · unfold runI at hf
    split at hf
    · rename_i hl; rw [e, List.length_cons, hr.length, hl]
    · cases hf
  · subst e
    obtain ⟨t, pt, st⟩ := hb E
    refine ⟨t, pt _ (is_cx S hr), ?_⟩
    unfold runI at hf
    split at hf
    case isFalse => cases hf
    rename_i hl
    obtain ⟨o, ho, hr2⟩ := Option.bind_eq_some_iff.mp hf
    refine st _ Z H _ _ (wd_initI z r0 nd zn r0.nt rs (by rw [rs.length, hl]; exact hN)) fuel o ho _ ?_
    cases o with
    | nx ρ' =>
      simp only [outI] at hr2
      split at hr2
      case h_2 => cases hr2
      rename_i s' hs
      cases hr2
      intro Z' H' σ' z' w'
      obtain ⟨f', c, rs'⟩ := w'.endI z' hs
      exact hk _ Z' H' f' [] c rs' (.va .non)
    | rt w ρ' =>
      simp only [outI] at hr2
      split at hr2
      case h_2 => cases hr2
      rename_i s' hs
      cases hr2
      intro v Z' H' σ' fp z' w' rw'
      obtain ⟨f', c, rs'⟩ := w'.endI z' hs
      exact hk _ Z' H' f' fp c rs' rw'
    | ex e ρ' =>
      simp only [outI] at hr2
      split at hr2
      case h_2 => cases hr2
      rename_i s' hs
      cases hr2
      intro cc d Z' H' σ' z' w' er
      obtain ⟨f', c, rs'⟩ := w'.endI z' hs
      exact hk _ _ Z' H' f' c rs' er
    | bk ρ' => cases hr2
    | ct ρ' => cases hr2
end
end FL
set_option Elab.async false
set_option linter.all false
set_option maxRecDepth 100000
set_option maxHeartbeats 1000000
/-! FL15: the rules by name, for a printer -/
namespace FL
open PySem PySem.Spec PyProof.Rows L2
section
variable {g : Gm} {α β : Type}
variable {e a b c d tg : Expr} {fa fb fc fd : F D} {pos p : Pos} {es : List Expr} {fs : F (List D)} {ga gb : F Bool} {rest : List Expr} {x : Str} {k n : Nat} {st : Stmt} {sts : List Stmt} {f f1 f2 : FS}
/-- never come to -/
def fNone {α : Type} : F α := fun _ => none
theorem se_no : SE g e fNone := ⟨fun _ _ _ => False, fun _ _ => ⟨fun _ _ _ _ _ _ h => h.elim⟩, fun _ _ _ _ _ _ _ _ e => nomatch e⟩
theorem sw_no : SW g e fNone := ⟨fun _ _ _ => False, fun _ _ => ⟨fun _ _ _ _ _ _ h => h.elim⟩, fun _ _ _ _ _ _ _ _ e => nomatch e⟩
theorem st_no : ST g e fNone := ⟨fun _ _ _ => False, fun _ _ => ⟨fun _ _ _ _ _ _ h => h.elim⟩, fun _ _ _ _ _ _ _ _ e => nomatch e⟩
/-! names of the module -/
theorem e_gint {i : Int} (hm : ∃ t, g.mg x = some (.int i t)) (hg : g.sc.names.lookup x = some .globalImplicit := by rfl) (hd : (x == ("__debug__" : Str)) = false := by decide) : SE g (.Name x pos) (fC (.int i)) := by
  obtain ⟨t, hm⟩ := hm
  exact se_glob (v := .int i) hg hm ⟨t, rfl⟩ (fun _ => .int i) hd
theorem e_gstr {i : Str} (hm : ∃ t, g.mg x = some (.str i t)) (hg : g.sc.names.lookup x = some .globalImplicit := by rfl) (hd : (x == ("__debug__" : Str)) = false := by decide) : SE g (.Name x pos) (fC (.str i)) := by
  obtain ⟨t, hm⟩ := hm
  exact se_glob (v := .str i) hg hm ⟨t, rfl⟩ (fun _ => .str i) hd
theorem e_gcls (hm : g.mg x = some (.ref (He.ga g.K x))) (hg : g.sc.names.lookup x = some .globalImplicit := by rfl) (hd : (x == ("__debug__" : Str)) = false := by decide) : SE g (.Name x pos) (fC (.cls x)) :=
  se_glob (v := .ref (He.ga g.K x)) hg hm rfl (fun _ => .cls x) hd
theorem e_ty {n : String} (hm : g.mg x = none) (hv : bootBuiltins x = some (.type n) := by rfl) (hg : g.sc.names.lookup x = some .globalImplicit := by rfl) : SE g (.Name x pos) (fC (.ty n)) :=
  se_const (fun X is => pe_bltn (v := .ty n) (is.gl hg) (by rw [is.mg]; exact hm) hv rfl (fun h => by subst h; cases hv) (by
    cases q : (x == ("__debug__" : Str)) with
    | false => rfl
    | true => rw [eq_of_beq q] at hv; cases hv)) fun _ => .ty n
/-! calls of built-ins -/
def Bi (g : Gm) (id : String) (r : List V → Hp → VK → Prop) (o : List D → Option D) : Prop := (∀ X, Is g X → CallR X (.builtin id) r) ∧ CaD g.K r o
def Bt (g : Gm) (id : String) (r : List V → Hp → VK → Prop) (o : List D → Option D) : Prop := (∀ X, Is g X → CallR X (.type id) r) ∧ CaD g.K r o
theorem bi_isi : Bi g "isinstance" (rIsiA g.K) oIsi := ⟨fun X is => by rw [← is.K]; exact caR_isi, cad_isi⟩
theorem bi_len : Bi g "len" (rLenA g.K) oLen := ⟨fun X is => by rw [← is.K]; exact caR_len, cad_len⟩
theorem bi_sum : Bi g "sum" (rSum g.K) oSum := ⟨fun X is => by rw [← is.K]; exact cr_sum is.calm, cad_sum⟩
theorem bi_all : Bi g "all" (rAll g.K) oAll := ⟨fun X is => by rw [← is.K]; exact cr_all is.calm, cad_all⟩
theorem bi_any : Bi g "any" (rAny g.K) oAny := ⟨fun X is => by rw [← is.K]; exact cr_any is.calm, cad_any⟩
theorem bi_max : Bi g "max" (rMaxA g.K) oMax := ⟨fun X is => by rw [← is.K]; exact caR_max is.calm, cad_max⟩
theorem bi_min : Bi g "min" (rMinA g.K) oMin := ⟨fun X is => by rw [← is.K]; exact caR_min is.calm, cad_min⟩
theorem bi_abs : Bi g "abs" rAbs oAbs := ⟨fun X is => call_abs, cad_abs⟩
theorem bt_int : Bt g "int" rIntC oIntC := ⟨fun X is => call_int1, cad_int⟩
theorem bt_tuple : Bt g "tuple" (rTuple g.K) oTuple := ⟨fun X is => by rw [← is.K]; exact caR_tuple, cad_tuple⟩
theorem e_bi {id : String} {r : List V → Hp → VK → Prop} {o : List D → Option D} (B : Bi g id r o) (hm : g.mg x = none) (ha : SA g (e :: es) fs) (hg : g.sc.names.lookup x = some .globalImplicit := by rfl) (hv : bootBuiltins x = some (.builtin id) := by rfl)
    (hn : x ≠ "__name__" := by decide) (hdb : (x == ("__debug__" : Str)) = false := by decide) (he : ∀ env, starEach (e :: es) env = (false, eval e env) :: starEach es env := by intro _; rfl) (hpl : ∀ env, (backTo pos (starEach es env)).any (·.1) = false := by intro _; rfl) :
    SE g (.Call (.Name x p) (e :: es) [] pos) (fCall o fs) := se_callB B.1 B.2 hg hm hv ha hn hdb he hpl
theorem e_bt {id : String} {r : List V → Hp → VK → Prop} {o : List D → Option D} (B : Bt g id r o) (hm : g.mg x = none) (ha : SA g (e :: es) fs) (hg : g.sc.names.lookup x = some .globalImplicit := by rfl) (hv : bootBuiltins x = some (.type id) := by rfl)
    (hn : x ≠ "__name__" := by decide) (hdb : (x == ("__debug__" : Str)) = false := by decide) (he : ∀ env, starEach (e :: es) env = (false, eval e env) :: starEach es env := by intro _; rfl) (hpl : ∀ env, (backTo pos (starEach es env)).any (·.1) = false := by intro _; rfl) :
    SE g (.Call (.Name x p) (e :: es) [] pos) (fCall o fs) := se_callTy B.1 B.2 hg hm hv ha hn hdb he hpl
theorem w_list (hm : g.mg "list" = none) (ha : SA g [e] fs) (hg : g.sc.names.lookup ("list" : Str) = some .globalImplicit := by rfl)
    (he : ∀ env, starEach [e] env = (false, eval e env) :: starEach [] env := by intro _; rfl) :
    SW g (.Call (.Name "list" p) [e] [] pos) (fCallL oList fs) := sw_callTy2 (r := rListA g.K) (fun X is => by rw [← is.K]; exact caR_list is.calm) caw_list hg hm rfl ha (by decide) (by decide) he (fun _ => rfl)
/-! operators -/
def Bo (g : Gm) (op : Operator) (r : R2) (o : D → D → Option D) : Prop := (∀ X, Is g X → OpR X (binaryOp op) r) ∧ OpD g.K r o
def Co (g : Gm) (op : CmpOp) (r : R2) (o : D → D → Option D) : Prop := (∀ X, Is g X → OpR X (compareOp op) r) ∧ OpD g.K r o
theorem bo_add : Bo g .Add (rAddA g.K) oAdd := ⟨fun X is => by rw [← is.K]; exact opr_add, opd_add⟩
theorem bo_sub : Bo g .Sub (rI0 fun i j => .int (i - j)) oSub := ⟨fun X is => op_sub, opd_sub⟩
theorem bo_mul : Bo g .Mult (rMulA g.K) oMul := ⟨fun X is => by rw [← is.K]; exact opr_mul, opd_mul⟩
theorem bo_mod : Bo g .Mod (rI (fun _ j => 0 < j) fun i j => .int (i % j)) oMod := ⟨fun X is => op_mod, opd_mod⟩
theorem bo_div : Bo g .FloorDiv (rI CDiv fun i j => .int (i / j)) oDiv := ⟨fun X is => op_fdiv, opd_div⟩
theorem bo_pow : Bo g .Pow (rI CPow fun i j => .int (i ^ j.toNat)) oPow := ⟨fun X is => op_pow, opd_pow⟩
theorem co_lt : Co g .Lt (rI0 fun i j => .bl (decide (i < j))) oLt := ⟨fun X is => op_lt, opd_lt⟩
theorem co_le : Co g .LtE (rI0 fun i j => .bl (decide (i ≤ j))) oLe := ⟨fun X is => op_le, opd_le⟩
theorem co_gt : Co g .Gt (rI0 fun i j => .bl (decide (j < i))) oGt := ⟨fun X is => op_gt, opd_gt⟩
theorem co_ge : Co g .GtE (rI0 fun i j => .bl (decide (j ≤ i))) oGe := ⟨fun X is => op_ge, opd_ge⟩
theorem co_eq : Co g .Eq (rEqD g.K) oEq := ⟨fun X is => by rw [← is.K]; exact op_eqD is.hu64, opd_eq⟩
theorem co_ne : Co g .NotEq (rNeD g.K) oNe := ⟨fun X is => by rw [← is.K]; exact op_neD is.hu64, opd_ne⟩
theorem co_is : Co g .Is rIsN oIsN := ⟨fun X is => op_isN, opd_isN⟩
theorem co_isnot : Co g .IsNot rNotN oNotN := ⟨fun X is => op_notN, opd_notN⟩
theorem co_in : Co g .In (rIn g.K false) (oIn false) := ⟨fun X is => by rw [← is.K]; exact op_in_seq, opd_in⟩
theorem co_notin : Co g .NotIn (rIn g.K true) (oIn true) := ⟨fun X is => by rw [← is.K]; exact op_notIn_seq, opd_in⟩
theorem co_inS : Co g .In rInS (oInS false) := ⟨fun X is => op_inS, opd_inS⟩
theorem co_notinS : Co g .NotIn rNotInS (oInS true) := ⟨fun X is => op_notInS, opd_notInS⟩
theorem e_bo {op : Operator} {r : R2} {o : D → D → Option D} (B : Bo g op r o) (ha : SE g a fa) (hb : SE g b fb) : SE g (.BinOp a op b pos) (fOp o fa fb) := se_bin B.1 B.2 ha hb
theorem e_co {op : CmpOp} {r : R2} {o : D → D → Option D} (B : Co g op r o) (ha : SE g a fa) (hb : SE g b fb) (hm : behindInMarks op b = false := by rfl) : SE g (.Compare a [op] [b] pos) (fOp o fa fb) := se_cmp B.1 B.2 ha hb hm
theorem t_co {op : CmpOp} {r : R2} {o : D → D → Option D} (B : Co g op r o) (ha : SE g a fa) (hb : SE g b fb) (hm : behindInMarks op b = false := by rfl) : ST g (.Compare a [op] [b] pos) (fT (fOp o fa fb)) := st_cmp B.1 B.2 ha hb hm
theorem e_ch {op op' : CmpOp} {r r' : R2} {o o' : D → D → Option D} (B : Co g op r o) (B' : Co g op' r' o') (ha : SE g a fa) (hb : SE g b fb) (hc : SE g c fc) (hm : lastMarks [op, op'] [b, c] = false := by with_unfolding_all rfl) : SE g (.Compare a [op, op'] [b, c] pos) (fChain o o' fa fb fc) := se_chain B.1 B.2 B'.1 B'.2 ha hb hc hm
theorem t_ch {op op' : CmpOp} {r r' : R2} {o o' : D → D → Option D} (B : Co g op r o) (B' : Co g op' r' o') (ha : SE g a fa) (hb : SE g b fb) (hc : SE g c fc) (hm : lastMarks [op, op'] [b, c] = false := by with_unfolding_all rfl) : ST g (.Compare a [op, op'] [b, c] pos) (fT (fChain o o' fa fb fc)) := st_chain B.1 B.2 B'.1 B'.2 ha hb hc hm
theorem e_neg (ha : SE g a fa) : SE g (.UnaryOp .USub a pos) (fU oNeg fa) := se_un (fun X is => un_neg) und_neg ha
theorem e_ix (ha : SE g a fa) (hb : SE g b fb) (hs : PlainIx b := by intro _ _; rfl) : SE g (.Subscript a b pos) (fOp oIx fa fb) := se_ix (r := rIx g.K) (fun X is => by rw [← is.K]; exact ix_seq) opd_ixA ha hb hs
/-! methods -/
theorem w_append {i : Nat} {y : Str} {py apos cpos : Pos} (hN : g.N[i]? = some y) (hv : Vis g.sc y) (ha : SA g [e] fs)
    (hd : (y == ("__debug__" : Str)) = false := by decide) (hcd : (y == ("__classdict__" : Str)) = false := by decide)
    (h2 : ∀ env, (((backTo cpos (starEach [e] env)).all fun x => !x.1) && (backToKw cpos (keywordEach [] env)).all (fun x => x.1.isSome) && decide (([e] : List Expr).length + ([] : List Keyword).length + (if ([] : List Keyword).isEmpty = true then 0 else 1) < 30)) = true := by intro _; rfl)
    (h3 : (apos.endLine == cpos.line) = true := by rfl) (h4 : ∀ env, starEach [e] env = (false, eval e env) :: starEach [] env := by intro _; rfl) :
    SW g (.Call (.Attribute (.Name y py) "append" apos) [e] [] cpos) (fOwn i isLs oAppend fs) := sw_meth own_append ty_ls PySem.F.plainAttrs_list PySem.F.slot_list_append PySem.F.type_list_append (fun X is => mt_append) hN hv ha hd hcd (fun _ => rfl) h2 h3 h4 (fun _ => rfl)
theorem w_pop {i : Nat} {y : Str} {py apos cpos : Pos} (hN : g.N[i]? = some y) (hv : Vis g.sc y)
    (hd : (y == ("__debug__" : Str)) = false := by decide) (hcd : (y == ("__classdict__" : Str)) = false := by decide) (h3 : (apos.endLine == cpos.line) = true := by rfl) :
    SW g (.Call (.Attribute (.Name y py) "pop" apos) [] [] cpos) (fOwn i isLs oPop aNil) := sw_meth0 own_pop ty_ls PySem.F.plainAttrs_list PySem.F.slot_list_pop PySem.F.type_list_pop (fun X is => mt_pop) hN hv hd hcd (fun _ => rfl) h3
theorem w_popAt {i : Nat} {y : Str} {py apos cpos : Pos} (hN : g.N[i]? = some y) (hv : Vis g.sc y) (ha : SA g [e] fs)
    (hd : (y == ("__debug__" : Str)) = false := by decide) (hcd : (y == ("__classdict__" : Str)) = false := by decide)
    (h2 : ∀ env, (((backTo cpos (starEach [e] env)).all fun x => !x.1) && (backToKw cpos (keywordEach [] env)).all (fun x => x.1.isSome) && decide (([e] : List Expr).length + ([] : List Keyword).length + (if ([] : List Keyword).isEmpty = true then 0 else 1) < 30)) = true := by intro _; rfl)
    (h3 : (apos.endLine == cpos.line) = true := by rfl) (h4 : ∀ env, starEach [e] env = (false, eval e env) :: starEach [] env := by intro _; rfl) :
    SW g (.Call (.Attribute (.Name y py) "pop" apos) [e] [] cpos) (fOwn i isLs oPopAt fs) := sw_meth own_popAt ty_ls PySem.F.plainAttrs_list PySem.F.slot_list_pop PySem.F.type_list_pop (fun X is => mt_popAt) hN hv ha hd hcd (fun _ => rfl) h2 h3 h4 (fun _ => rfl)
end
end FL
set_option Elab.async false
set_option linter.all false
set_option maxRecDepth 100000
set_option maxHeartbeats 1000000
/-! S1: t[::-1] of a tuple -/
namespace FL
open PySem PySem.Spec PyProof.Rows L2
section
variable {prog : Program} {w : World} {A : Around} {E : Value → Shared → Prop} {s : Shared}
theorem sliceApplied_rev {sl : Addr} {vl vu vs : Value} {n : Nat} {Q : Int × Int × Nat → Shared → Prop} (hs : s.heap.IsSliceOf sl vl vu vs) (pl : IsPart vl none) (pu : IsPart vu none) (ps : IsPart vs (some (-1))) (h : Q ((n : Int) - 1, -1, n) s) :
    wpAny (model prog w) A (Builtin.Slice.sliceApplied (.ref sl) (pure (n : Int))) Q E s := by
  obtain ⟨os, hos, hcs, hds⟩ := id hs
  unfold Builtin.Slice.sliceApplied
  refine wpAny_bind (wpAny_bind (wpAny_field hos hds rfl (wpAny_bind (wpAny_field hos hds rfl (wpAny_bind (wpAny_field hos hds rfl (wpAny_pure ?_)))))))
  refine wpAny_bind (HT.slicePart_ ps ?_)
  show wpAny (model prog w) A (if ((some (-1 : Int)).getD 1 == 0) = true then _ else _) Q E s
  rw [if_neg (by decide)]
  refine wpAny_bind (HT.slicePart_ pl ?_)
  refine wpAny_bind (HT.slicePart_ pu ?_)
  refine wpAny_bind (wpAny_pure ?_)
  have e : Builtin.Slice.slicePlaces ((n : Int) - 1) (-1) (-1) = n := by
    unfold Builtin.Slice.slicePlaces
    rw [if_neg (by decide)]
    by_cases hn : n = 0
    · subst hn; rfl
    · rw [if_pos (by omega)]
      simp
  show wpAny (model prog w) A (pure (((n : Int) - 1, -1, Builtin.Slice.slicePlaces ((n : Int) - 1) (-1) (-1)))) Q E s
  rw [e]
  exact wpAny_pure h
theorem rev_pick (items : Array Value) : (List.filterMap (fun (k : Nat) => items[(((items.size : Int) - 1) + ↑k * -1).toNat]?) (List.range items.size)) = items.toList.reverse := by
  apply List.ext_getElem?
  intro i
  have h1 : ∀ k ∈ List.range items.size, items[(((items.size : Int) - 1) + (k : Nat) * -1).toNat]? = some (items.toList.reverse.getD k .none) := by
    intro k hk
    have hk := List.mem_range.mp hk
    have e : (((items.size : Int) - 1) + (k : Nat) * -1).toNat = items.size - 1 - k := by omega
    rw [e, Array.getElem?_eq_getElem (by omega)]
    congr 1
    rw [List.getD_eq_getElem?_getD, List.getElem?_reverse (by simpa using hk)]
    have : items.size - 1 - k < items.size := by omega
    simp [Array.getElem?_eq_getElem this]
  have h2 : (List.filterMap (fun (k : Nat) => items[(((items.size : Int) - 1) + ↑k * -1).toNat]?) (List.range items.size)) = (List.range items.size).map fun k => items.toList.reverse.getD k .none := by
    generalize List.range items.size = l at h1
    induction l with
    | nil => rfl
    | cons a l ih =>
      rw [List.filterMap_cons, h1 a (by simp), List.map_cons]
      simp only
      rw [ih fun k hk => h1 k (by simp [hk])]
  rw [h2, List.getElem?_map]
  by_cases hi : i < items.size
  · rw [List.getElem?_range hi]
    simp only [Option.map_some]
    rw [List.getD_eq_getElem?_getD, List.getElem?_eq_getElem (by simpa using hi)]
    rfl
  · rw [List.getElem?_eq_none (by simp; omega), List.getElem?_eq_none (by simp; omega)]
    rfl
theorem getItem_tuple_rev {t sl : Addr} {items : Array Value} {vl vu vs : Value} {Q : Value → Shared → Prop} (ht : IsTup s.heap t items) (hs : s.heap.IsSliceOf sl vl vu vs) (pl : IsPart vl none) (pu : IsPart vu none) (ps : IsPart vs (some (-1)))
    (h : Q (.ref s.heap.objs.size) { s with heap := s.heap.push { cls := .type "tuple", data := .seq items.toList.reverse.toArray } }) (hsz : items.size ≤ sizeLine) : wpAny (model prog w) A (getItem (.ref t) (.ref sl)) Q E s := by
  obtain ⟨os, hos, hcs, hds⟩ := id hs
  have hTs : s.TypeIs (.ref sl) "slice" := ⟨os, hos, hcs⟩
  refine wpAny_holding (wpAny_bind (wpAny_sequenceKey (IsTup.typeIs ht) (by decide) (wpAny_bind (wpAny_callSpecial?_slot (IsTup.typeIs ht) slot_tuple_getitem (wpAny_call_entry slot_tuple_getitem (IsTup.typeIs ht) entry_tuple_getitem ?_ (args_tuple_getitem _ _))))))
  change wpAny (model prog w) A.in1 (bind (Builtin.Tuple.tupleItemsOf (Value.ref t)) _) _ E s
  refine wpAny_bind (tupleItemsOf_ ht ?_)
  refine wpAny_bind (wpAny_typeOf hTs ?_)
  rw [if_pos (by decide)]
  refine wpAny_bind (sliceApplied_rev hs pl pu ps ?_)
  show wpAny (model prog w) A.in1 (if _ then _ else _) _ E s
  rw [if_neg (by simp)]
  rw [rev_pick]
  refine wpAny_bind (wpAny_newObj_type (wpAny_pure ⟨_, rfl, wpAny_pure h⟩) (by show _ ≤ sizeLine; simpa using hsz))
end
def tRevT (K : PySem.W.Frag) (te : TE) : TE := fun σ H Q => te σ H fun x H1 => ∃ a xs, x = V.ref a ∧ SqT K H1 a xs ∧ ∀ p, H1 p = none → Q (.ref p) (upd H1 p (.tup xs.reverse))
theorem vals_rev : ∀ {vs : List V} {us : List Value}, Vals vs us → Vals vs.reverse us.reverse
  | _, _, .nil => .nil
  | _, _, .cons h r => by
    rw [List.reverse_cons, List.reverse_cons]
    have : ∀ {vs : List V} {us : List Value} {v : V} {u : Value}, Vals vs us → RelV v u → Vals (vs ++ [v]) (us ++ [u]) := by
      intro vs us v u h1 h2
      induction h1 with
      | nil => exact .cons h2 .nil
      | cons a _ ih => exact .cons a ih
    exact this (vals_rev r) h
theorem pe_revT {X : Cx} {e : Expr} {te : TE} {k : Nat} {p1 p2 p3 pos : Pos} (he : PE X e te) : PE X (.Subscript e (.Slice none none (some (.UnaryOp .USub (.Constant (.int 1) k p1) p2)) p3) pos) (tRevT X.K te) := by
  refine ⟨fun pins s σ H Q I h => Subscript_ (thn (he.run pins s σ H _ I h) ?_)⟩
  rintro v s1 ⟨x, H1, I1, r1, a, xs, rfl, hx, q⟩
  cases r1
  have hst := po_some (X := X) (pe_un (pos := p2) un_neg (pe_int (i := 1) (j := k) (pos := p1)))
  refine wpAny_Slice (thn (po_none.run pins s1 σ H1 (fun o H2 => o = none ∧ H2 = H1) I1 ⟨rfl, rfl⟩) ?_)
  rintro vl s2 ⟨l, H2, I2, pl, rfl, rfl⟩
  refine thn (po_none.run pins s2 σ H2 (fun o H3 => o = none ∧ H3 = H2) I2 ⟨rfl, rfl⟩) ?_
  rintro vu s3 ⟨u, H3, I3, pu, rfl, rfl⟩
  refine thn (hst.run pins s3 σ H3 (fun o H4 => o = some (-1) ∧ H4 = H3) I3 ⟨1, rfl, -1, rfl, rfl, rfl⟩) ?_
  rintro vs s4 ⟨o, H4, I4, ps, rfl, rfl⟩
  have I5 := Inv.kept (t' := s4.toks) I4 fun b ob q => Heap.get?_push_of_some { cls := Value.type "slice", data := Data.fields #[vl, vu, vs] } q
  obtain ⟨its, r, ht, hz⟩ := Inv.tuple I5 hx
  have hlen : its.length = xs.length := (Vals.length r).symm
  refine tail_any (IsTup.typeIs ht) slot_tuple_getitem.lookup (getItem_tuple_rev ht (Heap.IsSliceOf.new s4.1 vl vu vs) pl pu ps ?_ (by simpa [hlen] using hz)) rfl
  refine ⟨V.ref _, upd H4 _ (.tup xs.reverse), Inv.laid I5 (fun b ob q => Heap.get?_push_of_some _ q) (Nat.le_refl _) ⟨by simpa using hz, its.reverse, vals_rev r, ?_⟩, rfl, q _ (HOk.fresh I5.hok (Nat.le_refl _))⟩
  exact IsTup.new _ _
section
variable {g : Gm} {e : Expr} {fa : F D} {pos : Pos}
def oRevT : D → Option D
  | .tup xs => some (.tup xs.reverse)
  | _ => none
def fRevT (fa : F D) : F D := fa.bind fun d => F.of (oRevT d)
theorem se_revT {kk : Nat} {p1 q2 p3 : Pos} (ha : SE g e fa) : SE g (.Subscript e (.Slice none none (some (.UnaryOp .USub (.Constant (.int 1) kk p1) q2)) p3) pos) (fRevT fa) := by
  obtain ⟨ta, pa, sa⟩ := ha
  refine ⟨tRevT g.K ta, fun X is => by rw [← is.K]; exact pe_revT (pa X is), fun fx Z H ρ σ ex w rr e x Q k => ?_⟩
  show ta σ H fun x H1 => ∃ a xs, x = V.ref a ∧ SqT g.K H1 a xs ∧ ∀ p, H1 p = none → Q (.ref p) (upd H1 p (.tup xs.reverse))
  refine se_run sa w e x fun dx ρ1 v Z1 H1 e1 m1 r1 x1 => ?_
  obtain ⟨d', h1, h2⟩ := of_some e1
  cases r1 with
  | tup ho hr =>
    cases h1
    exact ⟨_, _, rfl, .of (m1.zh _ _ ho), fun p hp => FinL.tup m1.zh (fun v' Z4 H4 g4 r4 => k _ ρ1 h2 v' Z4 H4 (m1.gr g4) r4) hp hr.rev⟩
  | _ => simp [oRevT] at h1
end
end FL
set_option Elab.async false
set_option linter.all false
set_option maxRecDepth 100000
set_option maxHeartbeats 1000000
/-! S2: xs.count(y), xs.index(y) of flat items -/
namespace FL
open PySem PySem.Spec PyProof.Rows L2
def rCntF (K : PySem.W.Frag) : V → List V → Hp → VK → Prop := fun x xs H Q => ∃ (p : Addr) (ys : List V) (y : V), x = .ref p ∧ xs = [y] ∧ SqL K H p ys ∧ flatV y = true ∧ ys.all flatV = true ∧ Q (.int (ys.countP fun z => eqV z y : Nat)) H
theorem countU {y : V} : ∀ {ys : List V} {us : List Value}, Vals ys us → ys.all flatV = true → us.countP (eqU y) = ys.countP fun z => eqV z y
  | _, _, .nil, _ => rfl
  | _, _, .cons h r, f => by
    rw [List.all_cons, Bool.and_eq_true] at f
    rw [List.countP_cons, List.countP_cons, countU r f.2, eqU_of h f.1]
theorem mt_countF {X : Cx} : MtR X "list.count" (rCntF X.K) := by
  rintro pins s σ H x xs v us Q I rx rxs ⟨p, ys, y, rfl, rfl, hs, fy, fys, q⟩
  cases rx
  obtain ⟨u, rfl, ru⟩ := Vals.one rxs
  obtain ⟨its, rv, ⟨o, n, ho, hc, hdn, hd⟩, hlen⟩ := Inv.list I hs
  obtain ⟨cls, dd, data, sl⟩ := o
  simp only at hc hdn hd
  subst hc hd
  refine call_meets F.slot_list_count ⟨_, ho, rfl⟩ F.entry_list_count (F.args_list_count_2 _ _) (SeqAt.list_countAt p its.toArray n dd sl u (eqU y)) ⟨ho, fun u' hu' => mem_eqAt ru fy rv fys u' (by simpa using hu'), ?_⟩
  refine ⟨.int (ys.countP fun z => eqV z y : Nat), H, Inv.tok I (s.toks + 1), ⟨s.toks, ?_⟩, q⟩
  show Value.int ((List.countP (eqU y) its : Nat) : Int) s.toks = _
  rw [countU rv fys]
/-- a method of data -/
def MthD (K : PySem.W.Frag) (r : V → List V → Hp → VK → Prop) (o : D → List D → Option D) : Prop := ∀ Z H x vs dx ds d, Zle Z H → Rep K Z x dx → Reps K Z vs ds → o dx ds = some d → ∀ Q, Fin K Z H d Q → r x vs H Q
section
variable {g : Gm} {fx : Fx} {Z Z' H H' : Hp} {ρ ρ1 : Rho} {σ : L2.St} {ex : List Addr}
variable {e a b c tg : Expr} {fa fb fc : F D} {pos p : Pos} {es : List Expr} {fs : F (List D)} {x : Str}
def fMth (ok : D → Bool) (o : D → List D → Option D) (fa : F D) (fs : F (List D)) : F D := fa.bind fun d => if ok d then fs.bind fun ds => F.of (o d ds) else fun _ => none
def isL : D → Bool := fun d => (sqL? d).isSome
theorem se_mth {m : Str} {T id : String} {apos cpos : Pos} {r : V → List V → Hp → VK → Prop} {ok : D → Bool} {o : D → List D → Option D} (hr : MthD g.K r o) (ht : ∀ Z H v d, Zle Z H → Rep g.K Z v d → ok d = true → tyV g.K T v H) (hp : PlainAttrs T) (hs : Slot T m id) (hty : typeOf (.builtin id) = pure (.type "method_descriptor")) (hm : ∀ X, Is g X → MtR X id r) (hb : SE g b fb) (ha : SA g (e :: es) fs)
    (h1 : ∀ env, attributeBase b m env (eval b env) = eval b env := by intro _; rfl)
    (h2 : ∀ env, (((backTo cpos (starEach (e :: es) env)).all fun x => !x.1) && (backToKw cpos (keywordEach [] env)).all (fun x => x.1.isSome) && decide ((e :: es).length + ([] : List Keyword).length + (if ([] : List Keyword).isEmpty = true then 0 else 1) < 30)) = true := by intro _; rfl)
    (h3 : (apos.endLine == cpos.line) = true := by rfl) (h4 : ∀ env, starEach (e :: es) env = (false, eval e env) :: starEach es env := by intro _; rfl) (h5 : ∀ env, ((backTo cpos (starEach es env)).any (·.1)) = false := by intro _; rfl) :
    SE g (.Call (.Attribute b m apos) (e :: es) [] cpos) (fMth ok o fb fs) := by
  obtain ⟨tb, pb, sb⟩ := hb
  obtain ⟨t, pt, s⟩ := ha
  refine ⟨tBM g.K T r tb t, fun X is => by
    rw [← is.K]
    exact pe_bm hp hs hty (hm X is) (pb X is) (pt X is) (h1 _) (h2 _) h3 (h4 _) (h5 _), fun fx Z H ρ σ ex w rr e x Q k => ?_⟩
  show tb σ H fun x H1 => tyV g.K T x H1 ∧ t σ H1 fun xs H2 => r x xs H2 Q
  refine se_run sb w e x fun d ρ1 v Z1 H1 e1 m1 r1 x1 => ?_
  split at e1
  case isFalse => cases e1
  rename_i hok
  refine ⟨ht Z1 H1 v d m1.zh r1 hok, ?_⟩
  refine sa_run s m1.wd e1 x1 fun ds ρ2 vs Z2 H2 e2 m2 r2 x2 => ?_
  obtain ⟨d', h1, h2⟩ := of_some e2
  exact hr Z2 H2 v vs d ds d' m2.zh (r1.mono m2.z) r2 h1 Q fun v' Z3 H3 g3 r3 => k d' ρ2 h2 v' Z3 H3 ((m1.trans m2).gr g3) r3
theorem ty_L {K : PySem.W.Frag} : ∀ Z H v d, Zle Z H → Rep K Z v d → isL d = true → tyV K "list" v H := fun Z H v d z r h => by
  cases r with
  | lst h1 h2 => exact .inl ⟨rfl, _, .of (z _ _ h1)⟩
  | xls h1 h2 => exact .inl ⟨rfl, _, z.sqL h1⟩
  | _ => cases h
def oCount (x : D) : List D → Option D
  | [y] => (sqL? x).bind fun xs => (flatD y).bind fun u => (flatDs xs).map fun us => .int (us.countP fun z => eqV z u : Nat)
  | _ => none
theorem mthd_count {K : PySem.W.Frag} : MthD K (rCntF K) oCount := fun Z H x vs dx ds d z rx rs e Q k => by
  unfold oCount at e
  split at e
  case h_2 => cases e
  obtain ⟨xs, h1, h2⟩ := Option.bind_eq_some_iff.mp e
  obtain ⟨u, h3, h4⟩ := Option.bind_eq_some_iff.mp h2
  obtain ⟨us, h5, rfl⟩ := Option.map_eq_some_iff.mp h4
  obtain ⟨a, ws, rfl, hs, hr⟩ := rx.sqL z h1
  cases rs with
  | cons r1 rs =>
    cases rs
    obtain ⟨e1, f1⟩ := r1.flat h3
    obtain ⟨e2, f2⟩ := hr.flat h5
    subst e1 e2
    exact ⟨a, _, _, rfl, rfl, hs, f1, f2, k.now z (.int _)⟩
/-- the first place -/
def oIndex (x : D) : List D → Option D
  | [y] => (sqL? x).bind fun xs => (flatD y).bind fun u => (flatDs xs).bind fun us => (us.findIdx? fun z => eqV z u).map fun j => .int (j : Nat)
  | _ => none
theorem mthd_index {K : PySem.W.Frag} : MthD K (rIndex K) oIndex := fun Z H x vs dx ds d z rx rs e Q k => by
  unfold oIndex at e
  split at e
  case h_2 => cases e
  obtain ⟨xs, h1, h2⟩ := Option.bind_eq_some_iff.mp e
  obtain ⟨u, h3, h4⟩ := Option.bind_eq_some_iff.mp h2
  obtain ⟨us, h5, h6⟩ := Option.bind_eq_some_iff.mp h4
  obtain ⟨j, h7, rfl⟩ := Option.map_eq_some_iff.mp h6
  obtain ⟨a, ws, rfl, hs, hr⟩ := rx.sqL z h1
  cases rs with
  | cons r1 rs =>
    cases rs
    obtain ⟨e1, f1⟩ := r1.flat h3
    obtain ⟨e2, f2⟩ := hr.flat h5
    subst e1 e2
    obtain ⟨hj, p1, p2⟩ := List.findIdx?_eq_some_iff_getElem.mp h7
    refine ⟨a, _, _, j, _, rfl, rfl, hs, f1, f2, List.getElem?_eq_getElem hj, p1, fun m z' hm hz => ?_, k.now z (.int _)⟩
    obtain ⟨hm', e⟩ := List.getElem?_eq_some_iff.mp hz
    have := p2 m hm
    rw [e] at this
    simpa using this
theorem e_count {apos cpos : Pos} (hb : SE g b fb) (ha : SA g [e] fs)
    (h1 : ∀ env, attributeBase b "count" env (eval b env) = eval b env := by intro _; rfl)
    (h2 : ∀ env, (((backTo cpos (starEach [e] env)).all fun x => !x.1) && (backToKw cpos (keywordEach [] env)).all (fun x => x.1.isSome) && decide (([e] : List Expr).length + ([] : List Keyword).length + (if ([] : List Keyword).isEmpty = true then 0 else 1) < 30)) = true := by intro _; rfl)
    (h3 : (apos.endLine == cpos.line) = true := by rfl) (h4 : ∀ env, starEach [e] env = (false, eval e env) :: starEach [] env := by intro _; rfl) :
    SE g (.Call (.Attribute b "count" apos) [e] [] cpos) (fMth isL oCount fb fs) := se_mth (T := "list") mthd_count ty_L PySem.F.plainAttrs_list PySem.F.slot_list_count PySem.F.type_list_count (fun X is => by rw [← is.K]; exact mt_countF) hb ha h1 h2 h3 h4 (fun _ => rfl)
theorem e_index {apos cpos : Pos} (hb : SE g b fb) (ha : SA g [e] fs)
    (h1 : ∀ env, attributeBase b "index" env (eval b env) = eval b env := by intro _; rfl)
    (h2 : ∀ env, (((backTo cpos (starEach [e] env)).all fun x => !x.1) && (backToKw cpos (keywordEach [] env)).all (fun x => x.1.isSome) && decide (([e] : List Expr).length + ([] : List Keyword).length + (if ([] : List Keyword).isEmpty = true then 0 else 1) < 30)) = true := by intro _; rfl)
    (h3 : (apos.endLine == cpos.line) = true := by rfl) (h4 : ∀ env, starEach [e] env = (false, eval e env) :: starEach [] env := by intro _; rfl) :
    SE g (.Call (.Attribute b "index" apos) [e] [] cpos) (fMth isL oIndex fb fs) := se_mth (T := "list") mthd_index ty_L PySem.F.plainAttrs_list PySem.F.slot_list_index PySem.F.type_list_index (fun X is => by rw [← is.K]; exact mt_index) hb ha h1 h2 h3 h4 (fun _ => rfl)
end
end FL
set_option Elab.async false
set_option linter.all false
set_option maxRecDepth 100000
set_option maxHeartbeats 2000000
/-! S3: {e for x in xs} of whole numbers or texts; its length -/
namespace FL
open PySem PySem.Spec PyProof.Rows L2
def tScK (P : Program) (w : World) (wi : TI) (g : TG) (tt : TT) (te : TE) (vs : List Nat) : TE := fun σ H Q =>
  wi σ H fun J H1 => ∀ D : Addr, H1 D = none → ∃ W : Nat → Nat → Hp → Prop, (∃ m, W 0 m (upd H1 D (SetK P w D (fun _ => false) 0))) ∧ ∀ i m H, W i m H →
    (J.stop i H ∧ Q (.ref D) H) ∨ (J.go i H ∧ ∃ Nx : Hp → Prop, (∀ H', Nx H' → ∃ m', m' < m ∧ W (i + 1) m' H') ∧ ∀ x H', J.yld i H x H' → g x (L2.wipe σ vs) H' fun σ2 H2 => L2.wipe σ2 vs = L2.wipe σ vs ∧ tt σ2 H2 fun b H3 =>
      if b = true then te σ2 H3 fun y H4 => ∃ (c : Key) (S : Key → Bool) (n : Nat), y = kV c ∧ H4 D = some (SetK P w D S n) ∧ n + 1 < scanBound ∧ Nx (upd H4 D (SetK P w D (fun j => S j || decide (j = c)) (if S c = true then n else n + 1))) else Nx H3)
def freshSet (w : World) : Obj := { cls := .type "set", data := .set #[] 0 (SetTable.fresh 0 0 (!w.params.followText "set-order")) }
theorem setK_fresh {P : Program} {w : World} {h : Heap} : Heap.SetOf (mixKind P w) (h.push (freshSet w)) h.objs.size (fun _ => false) 0 := by
  refine ⟨freshSet w, #[], 0, SetTable.fresh 0 0 (!w.params.followText "set-order"), Heap.get?_push_size h rfl, ⟨rfl, rfl, rfl⟩, rfl, fun e he => by simp at he, fun k => by simp, by decide, rfl, rfl⟩
theorem sc_coreK {X : Cx} {pins : List (Addr × Obj)} {s : Shared} {σ : L2.St} {H : Hp} {Q : VK} {elt tg iter : Expr} {ifs : List Expr} {scope : Scope} {own : List (Str × Nat)} {pos pos' : Pos} {wi : TI} {g : TG} {tt : TT} {te : TE} {use : Option (Value → Sem Unit)} {Qf : Value → Shared → Prop}
    (hc : X.calm = true) (hN : X.N.Nodup) (I : L2.Inv X pins σ H s) (hi : PI X tg iter wi) (ok : BlkOk X.N X.env.scope scope own)
    (hg : ∀ s H C cl fp, PG (X.blk s H scope (compEnvC scope cl C X.env) fp) tg g) (ht : ∀ s H C cl fp, PTs (X.blk s H scope (compEnvC scope cl C X.env) fp) ifs tt) (he : ∀ s H C cl fp, PE (X.blk s H scope (compEnvC scope cl C X.env) fp) elt te)
    (hs : ∀ x, foldedSetIterable iter X.env x = pure x) (h : tScK X.prog X.w wi g tt te (own.map (·.2)) σ H Q)
    (hRR : ∀ D C s' m H', L2.Inv X pins σ H' s' → Q (.ref D) H' → s'.heap.Ns C m → FpOk X pins H' C → compPost (model X.prog X.w) X.A X.xe use Qf (.ref D) C (.ok .next) s') :
    wpAny (model X.prog X.w) X.A (comprehension (.SetComp elt [⟨tg, iter, ifs, 0⟩] scope pos) scope X.env pos' (newSet (.type "set")) false (eval iter X.env) use) Qf X.xe s := by
  have hfree : ∀ y ∈ scope.names, y.2 = .free → ∃ c, X.env.cells.lookup y.1 = some c := fun y hy e => (ok.free y hy e).elim (fun k => I.ok.has y.1 (.inl k)) fun k => I.ok.has y.1 (.inr k)
  refine wpAny_comprehension_free rfl hs (closure_ok hfree) ok.kind (fun y hy e => by rw [ok.uniq y hy, e]) (thn (hi.run pins s σ H _ I h) fun xv s1 hx => thn hx fun itv s2 h2 => ?_)
  obtain ⟨it, fp, tn, J, H2, e, I2, T, st2, f2, q⟩ := h2
  subst e
  refine PpSet.newSet_ok (newEnv_comp ?_)
  generalize hD : s2.heap.objs.size = D at *
  have hDn : H2 D = none := HOk.fresh I2.hok (Nat.le_of_eq hD)
  obtain ⟨W, ⟨m0, w0⟩, turn⟩ := q D hDn
  generalize hs3 : ({ heap := s2.heap.push { cls := Value.type "set", data := Data.set #[] 0 (SetTable.fresh 0 0 (!X.w.params.followText "set-order")) }, gens := s2.gens, drawn := s2.drawn, toks := s2.toks, os := s2.os } : Shared) = s3 at *
  have h3 : s3.heap = s2.heap.push (freshSet X.w) := by rw [← hs3]; rfl
  have kp : ∀ b o, s2.heap.get? b = some o → s3.heap.get? b = some o := fun b o e => by rw [h3]; exact Heap.get?_push_of_some _ e
  have I3 : L2.Inv X pins σ (upd H2 D (SetK X.prog X.w D (fun _ => false) 0)) s3 := by
    rw [← hs3]
    refine Inv.laid I2 (fun b o e => Heap.get?_push_of_some _ e) (Nat.le_of_eq hD) ?_
    have := setK_new (H := upd H2 D (SetK X.prog X.w D (fun _ => false) 0)) (setK_fresh (P := X.prog) (w := X.w) (h := s2.heap))
    rw [hD] at this
    exact this
  have sz : ∀ b ∈ fp, b < s2.heap.objs.size := fun b hb => by
    obtain ⟨o, e, _⟩ := T.obj 0 s2.heap st2 b hb
    exact Heap.lt_size e
  have f3 : ∀ b ∈ fp, FpOk X pins (upd H2 D (SetK X.prog X.w D (fun _ => false) 0)) b ∧ b < s3.heap.objs.size := fun b hb => by
    have hlt := sz b hb
    refine ⟨⟨by rw [upd_ne (by rw [← hD]; exact Nat.ne_of_lt hlt)]; exact (f2 b hb).1, (f2 b hb).2⟩, ?_⟩
    rw [h3, Heap.size_push]
    exact Nat.lt_succ_of_lt hlt
  have st3 : tn 0 s3.heap := T.keep 0 s2.heap s3.heap st2 fun b _ o e => kp b o e
  have I4 := block_start I3 ok hN f3
  have st4 : tn 0 (pushCells (s3.heap.push { cls := Value.type "dict", data := Data.dict #[] }) scope.names) := T.keep 0 s3.heap _ st3 fun b _ o e => pushCells_keeps scope.names _ b o (Heap.get?_push_of_some _ e)
  change codeAny (model X.prog X.w) X.A (Code.compStart (.SetComp elt [⟨tg, iter, ifs, 0⟩] scope pos) 0 (.ref it) (.ref D) (compEnvC scope (cellsFrom (s3.heap.objs.size + 1) scope.names (cloFrom X.env.cells scope.names [])) s3.heap.objs.size X.env)) (compPost (model X.prog X.w) X.A X.xe use Qf (.ref D) s3.heap.objs.size) { s3 with heap := pushCells (s3.heap.push { cls := Value.type "dict", data := Data.dict #[] }) scope.names }
  have pg := hg s3 (upd H2 D (SetK X.prog X.w D (fun _ => false) 0)) s3.heap.objs.size (cellsFrom (s3.heap.objs.size + 1) scope.names (cloFrom X.env.cells scope.names [])) fp
  have pt := ht s3 (upd H2 D (SetK X.prog X.w D (fun _ => false) 0)) s3.heap.objs.size (cellsFrom (s3.heap.objs.size + 1) scope.names (cloFrom X.env.cells scope.names [])) fp
  have pe := he s3 (upd H2 D (SetK X.prog X.w D (fun _ => false) 0)) s3.heap.objs.size (cellsFrom (s3.heap.objs.size + 1) scope.names (cloFrom X.env.cells scope.names [])) fp
  have cL : (compEnvC scope (cellsFrom (s3.heap.objs.size + 1) scope.names (cloFrom X.env.cells scope.names [])) s3.heap.objs.size X.env).locals = s3.heap.objs.size := rfl
  generalize compEnvC scope (cellsFrom (s3.heap.objs.size + 1) scope.names (cloFrom X.env.cells scope.names [])) s3.heap.objs.size X.env = cenv at *
  have nfp : ∀ b ∈ fp, upd H2 D (SetK X.prog X.w D (fun _ => false) 0) b = none := fun b hb => (f3 b hb).1.1
  have stat : ∀ {σ' : L2.St} {H' : Hp} {s' : Shared}, L2.Inv (X.blk s3 (upd H2 D (SetK X.prog X.w D (fun _ => false) 0)) scope cenv fp) [] σ' H' s' → (∀ b ∈ fp, H' b = none) → ∀ b ∈ fp, FpOk (X.blk s3 (upd H2 D (SetK X.prog X.w D (fun _ => false) 0)) scope cenv fp) [] H' b := fun {σ' H' s'} I' hn b hb =>
    ⟨hn b hb, (I'.ok.exf b hb).1, I'.ok.exfs b hb, .inl hb, fun x c e => (I'.ok.exf b hb).2 x c e, fun p hp => by simp at hp⟩
  have loop := PpSet.compLoopS_any (prog := X.prog) (w := X.w) (A := X.A) (R := compPost (model X.prog X.w) X.A X.xe use Qf (.ref D) s3.heap.objs.size) (s := { s3 with heap := pushCells (s3.heap.push { cls := Value.type "dict", data := Data.dict #[] }) scope.names }) (env := cenv) (elt := elt) (target := tg) (iter := iter) (ifs := ifs) (scope := scope) (pos := pos) (it := .ref it) (acc := .ref D)
    (fun n s' => ∃ i H', L2.Inv (X.blk s3 (upd H2 D (SetK X.prog X.w D (fun _ => false) 0)) scope cenv fp) [] (L2.wipe σ (own.map (·.2))) H' s' ∧ tn i s'.heap ∧ (∀ b ∈ fp, H' b = none) ∧ W i n H')
    (fun n s5 ⟨i, H5, I5, st5, n5, w5⟩ => by
      rcases turn i n H5 w5 with ⟨stop, qq⟩ | ⟨go, Nx, hNx, step⟩
      · have td := T.done (X.blk s3 (upd H2 D (SetK X.prog X.w D (fun _ => false) 0)) scope cenv fp) rfl rfl rfl hc i [] s5 (L2.wipe σ (own.map (·.2))) H5 (fun _ _ => False) I5 (stat I5 n5) st5 stop
        refine thnF td fun r s6 hr => ?_
        obtain ⟨hr, I6⟩ := hr
        subst hr
        have I7 := Inv.call' I3 I6.os I6.base I6.hok I6.bare fun b hb => ⟨(f3 b hb).1.2.2.2.1, (f3 b hb).1.2.1, (f3 b hb).1.2.2.2.2.1, (f3 b hb).1.2.2.2.2.2⟩
        have nC : H5 s3.heap.objs.size = none := by have := I6.free; rw [← cL]; exact this
        obtain ⟨m, hn, _⟩ := I6.loc
        exact hRR D s3.heap.objs.size s6 m H5 I7 qq (by rw [← cL]; exact hn) (Inv.fpOk I3 (Nat.le_refl _) nC)
      · have ti := T.item (X.blk s3 (upd H2 D (SetK X.prog X.w D (fun _ => false) 0)) scope cenv fp) rfl rfl rfl hc i [] s5 (L2.wipe σ (own.map (·.2))) H5 (fun _ _ => False) I5 (stat I5 n5) st5 go
        refine thnF ti fun r s6 hr => ?_
        obtain ⟨u, hr, h6⟩ := hr
        subst hr
        refine thnF h6 fun _ s7 h7 => ?_
        obtain ⟨x, H7, I7, r7, y7, st7, n7⟩ := h7
        have I7' := Inv.pinned I7 (stat I7 n7) (T.obj (i + 1) s7.heap st7)
        refine thnF (pg.run ([] ++ pinsAt fp s7.heap) s7 (L2.wipe σ (own.map (·.2))) H7 x u _ I7' r7 (step x H7 y7)) fun _ s8 h8 => ?_
        obtain ⟨σ8, H8, I8, hw8, q8⟩ := h8
        refine thnF (pt.run ([] ++ pinsAt fp s7.heap) s8 σ8 H8 _ I8 q8) fun b s9 h9 => ?_
        obtain ⟨H9, I9, q9⟩ := h9
        have fin : ∀ {s' : Shared} {H' : Hp}, L2.Inv (X.blk s3 (upd H2 D (SetK X.prog X.w D (fun _ => false) 0)) scope cenv fp) ([] ++ pinsAt fp s7.heap) σ8 H' s' → Nx H' → ∃ m, m < n ∧ ∃ i H', L2.Inv (X.blk s3 (upd H2 D (SetK X.prog X.w D (fun _ => false) 0)) scope cenv fp) [] (L2.wipe σ (own.map (·.2))) H' s' ∧ tn i s'.heap ∧ (∀ b ∈ fp, H' b = none) ∧ W i m H' := fun {s' H'} I' nx => by
          obtain ⟨m', hm, w'⟩ := hNx H' nx
          have pin' : ∀ b, b ∈ fp → ∀ o, s7.heap.get? b = some o → s'.heap.get? b = some o ∧ H' b = none := fun b hb o e => by
            have z := I'.pin (b, o) (List.mem_append_right _ (List.mem_append_right [] (mem_pinsAt hb e)))
            exact ⟨z.1, z.2.1⟩
          have hl : (L2.wipe σ (own.map (·.2))).length = σ8.length := by rw [← hw8, wipe_length]
          refine ⟨m', hm, i + 1, H', Inv.weak (Inv.unpinned I') hl fun j v e => (wipe_some (by rw [hw8]; exact e)).1, T.keep (i + 1) s7.heap s'.heap st7 fun b hb o e => (pin' b hb o e).1, fun b hb => ?_, w'⟩
          obtain ⟨o, e, _⟩ := T.obj (i + 1) s7.heap st7 b hb
          exact (pin' b hb o e).2
        cases b with
        | false =>
          rw [if_neg Bool.false_ne_true] at q9 ⊢
          exact fin I9 q9
        | true =>
          rw [if_pos rfl] at q9 ⊢
          refine thnF (pe.run ([] ++ pinsAt fp s7.heap) s9 σ8 H9 _ I9 q9) fun z s10 h10 => ?_
          obtain ⟨yv, H10, I10, r10, c, S, n0, rfl, hD10, hz10, nx⟩ := h10
          refine thnF (mt_saddK (X := X.blk s3 (upd H2 D (SetK X.prog X.w D (fun _ => false) 0)) scope cenv fp) ([] ++ pinsAt fp s7.heap) s10 σ8 H10 (.ref D) [kV c] (.ref D) [z] (fun _ H' => Nx H') I10 rfl (.cons r10 .nil) ⟨D, c, S, n0, rfl, rfl, hD10, hz10, nx⟩) fun _ s11 h11 => ?_
          obtain ⟨_, H11, I11, _, nx11⟩ := h11
          exact fin I11 nx11) m0 ⟨0, _, I4, st4, nfp, w0⟩
  exact PpSet.codeAny_compStart_set loop (T.self X.A 0 _ _ _ st4 loop)
theorem pe_scK {X : Cx} {elt tg iter : Expr} {ifs : List Expr} {scope : Scope} {own : List (Str × Nat)} {pos : Pos} {wi : TI} {g : TG} {tt : TT} {te : TE}
    (hc : X.calm = true) (hN : X.N.Nodup) (hi : PI X tg iter wi) (ok : BlkOk X.N X.env.scope scope own)
    (hg : ∀ s H C cl fp, PG (X.blk s H scope (compEnvC scope cl C X.env) fp) tg g) (ht : ∀ s H C cl fp, PTs (X.blk s H scope (compEnvC scope cl C X.env) fp) ifs tt) (he : ∀ s H C cl fp, PE (X.blk s H scope (compEnvC scope cl C X.env) fp) elt te)
    (hs : ∀ x, foldedSetIterable iter X.env x = pure x) : PE X (.SetComp elt [⟨tg, iter, ifs, 0⟩] scope pos) (tScK X.prog X.w wi g tt te (own.map (·.2))) := by
  refine ⟨fun pins s σ H Q I h => ?_⟩
  rw [PpSet.eval_SetComp]
  refine sc_coreK hc hN I hi ok hg ht he hs h fun D C s' m H' I' q hn f => ⟨m, hn, fun h'' sb => ?_⟩
  obtain ⟨f0, f1, f2, f3, f4, f5⟩ := f
  exact ⟨.ref D, H', Inv.turned I' (fun b o hb e => (sb.2 b hb).trans e) f0 f1 f3 f4 f5, rfl, q⟩
end FL
set_option Elab.async false
set_option linter.all false
set_option maxRecDepth 100000
set_option maxHeartbeats 2000000
/-! S4: len({e for x in xs}) -/
namespace FL
open PySem PySem.Spec PyProof.Rows L2
theorem setK_no {P : Program} {w : World} {a : Addr} {S : Key → Bool} {n : Nat} : ∀ u, NOwn u → SetK P w a S n ≠ u := by
  rintro _ (⟨_, rfl⟩ | ⟨_, rfl⟩ | ⟨c, q, rfl⟩) z
  · cases z
  · cases z
  · unfold SetK LamX.CodeO at z
    injection z with z
    have h := congrFun z { objs := Array.replicate (c + 1) { cls := .none, data := .fields #[.none, .str q default] } }
    have get : ∀ b o, ({ objs := Array.replicate (c + 1) { cls := .none, data := .fields #[.none, .str q default] } } : Heap).get? b = some o → o.data = .fields #[.none, .str q default] := fun b o e => by
      unfold Heap.get? at e
      simp only [Array.getElem?_replicate] at e
      by_cases hb : b < c + 1
      · rw [if_pos hb] at e
        cases e
        rfl
      · rw [if_neg hb] at e
        cases e
    have yes : ∃ (oc : Obj) (vs : Array Value) (t : Tok), ({ objs := Array.replicate (c + 1) { cls := .none, data := .fields #[.none, .str q default] } } : Heap).get? c = some oc ∧ oc.data = .fields vs ∧ vs[1]? = some (.str q t) := by
      refine ⟨{ cls := .none, data := .fields #[.none, .str q default] }, #[.none, .str q default], default, ?_, rfl, rfl⟩
      unfold Heap.get?
      simp only [Array.getElem?_replicate]
      rw [if_pos (Nat.lt_succ_self c)]
    rw [← h] at yes
    obtain ⟨o, es, ep, t, ho, hx, hd, _⟩ := yes
    rw [get _ _ ho] at hd
    cases hd
def rLenSK (P : Program) (w : World) : List V → Hp → VK → Prop := fun xs H Q => ∃ (a : Addr) (S : Key → Bool) (n : Nat), xs = [.ref a] ∧ H a = some (SetK P w a S n) ∧ Q (.int n) H
theorem cr_lenK {X : Cx} : CallR X (.builtin "len") (rLenSK X.prog X.w) := by
  rintro pins s σ H xs us Q I r ⟨a, S, n, rfl, ha, q⟩
  obtain ⟨u, rfl, ru⟩ := Vals.one r
  cases ru
  obtain ⟨o, es, ep, t, ho, hex, hd, hel, hS, hsz, hf, hn⟩ := setK_get I ha
  refine call_len_set ho hex hd hf ?_ ⟨.int n, H, Inv.tok I _, ⟨s.toks + 1, ?_⟩, q⟩
  · have : (scanBound : Nat) < 2 ^ 63 := by decide
    omega
  · rw [hn]
def memK (acc : List Key) (k : Key) : Bool := acc.any fun z => decide (z = k)
def scLoop (tg : D → Rho → Option Rho) (gt : F Bool) (fe : F D) (vs : List Nat) : List D → List Key → Rho → Option (List Key × Rho)
  | [], acc, ρ => some (acc, ρ)
  | x :: xs, acc, ρ => match tg x (wipeR ρ vs) with
    | none => none
    | some ρ1 => match gt ρ1 with
      | some (.ok true ρ2) => (match fe ρ2 with
        | some (.ok d ρ3) => (match key? d with
          | some k => scLoop tg gt fe vs xs (if memK acc k then acc else acc ++ [k]) (wipeR ρ3 vs)
          | none => none)
        | _ => none)
      | some (.ok false ρ2) => scLoop tg gt fe vs xs acc (wipeR ρ2 vs)
      | _ => none
def fLenSet (fi : F (List D)) (tg : D → Rho → Option Rho) (gt : F Bool) (fe : F D) (vs : List Nat) : F D := fi.bind fun ds ρ =>
  if ds.length + 1 < scanBound then (scLoop tg gt fe vs ds [] ρ).map fun p => .ok (.int (p.1.length : Nat)) p.2 else none
section
variable {g : Gm} {fx : Fx} {Z Z' H H' : Hp} {ρ ρ1 : Rho} {σ : L2.St} {ex : List Addr} {α β : Type}
variable {e a b c tg : Expr} {fa fb fc : F D} {pos p : Pos} {es : List Expr} {fs : F (List D)} {ga gb : F Bool} {rest : List Expr} {x : Str} {k n : Nat}
theorem sem_sc {wi : TI} {tgt : TG} {tt : TT} {te : TE} {scope : Scope} {vs : List Nat} {fi : F (List D)} {ftg : D → Rho → Option Rho} {gt : F Bool} {fe : F D} {js : List Nat} (si : SemI g wi fi)
    (sg : ∀ fx Z H ρ σ ex d v ρ', Wd (g.blk scope).K fx Z H ρ σ ex → Rep (g.blk scope).K Z v d → ftg d ρ = some ρ' → ∀ Q, (∀ σ', Wd (g.blk scope).K fx Z H ρ' σ' ex → σ'.length = σ.length → (∀ i, i ∉ js → σ'[i]? = σ[i]?) → Q σ' H) → tgt v σ H Q)
    (hj : ∀ j ∈ js, j ∈ vs) (st : SemT (g.blk scope) tt gt) (se : SemE (g.blk scope) te fe) : SemE g (tCB (rLenSK g.P g.w) (tCons (tScK g.P g.w wi tgt tt te vs) tNil)) (fLenSet fi ftg gt fe vs) := fun fx Z H ρ σ ex w r e x Q k => by
  show wi σ H fun J H1 => ∀ D, H1 D = none → ∃ W : Nat → Nat → Hp → Prop, (∃ m, W 0 m (upd H1 D (SetK g.P g.w D (fun _ => false) 0))) ∧ ∀ i m H, W i m H →
    (J.stop i H ∧ rLenSK g.P g.w [.ref D] H Q) ∨ (J.go i H ∧ ∃ Nx : Hp → Prop, (∀ H', Nx H' → ∃ m', m' < m ∧ W (i + 1) m' H') ∧ ∀ x H', J.yld i H x H' → tgt x (L2.wipe σ vs) H' fun σ2 H2 => L2.wipe σ2 vs = L2.wipe σ vs ∧ tt σ2 H2 fun b H3 =>
      if b = true then te σ2 H3 fun y H4 => ∃ (c : Key) (S : Key → Bool) (n : Nat), y = kV c ∧ H4 D = some (SetK g.P g.w D S n) ∧ n + 1 < scanBound ∧ Nx (upd H4 D (SetK g.P g.w D (fun j => S j || decide (j = c)) (if S c = true then n else n + 1))) else Nx H3)
  rcases bind_some e with ⟨ds, ρ1, e1, e2⟩ | ⟨xx, ρ', e1, e2⟩
  case inr =>
    subst e2
    exact si fx Z H ρ σ ex w _ e1 x.thru _ fun d ρ1 z => nomatch z
  refine si fx Z H ρ σ ex w _ e1 (fun _ _ z => nomatch z) _ fun ds' ρ1' z J Z1 H1 m1 wk D hD => ?_
  cases z
  split at e2
  case isFalse => cases e2
  rename_i hsz
  cases hl : scLoop ftg gt fe vs ds [] ρ1 with
  | none => rw [hl] at e2; cases e2
  | some out =>
  rw [hl] at e2
  obtain ⟨out, ρo⟩ := out
  cases e2
  obtain ⟨w1, f1⟩ := m1.new (o := SetK g.P g.w D (fun _ => false) 0) hD setK_no
  have s0 : (fun _ => false : Key → Bool) = memK [] := rfl
  refine ⟨fun i m H' => m = ds.length - i ∧ i ≤ ds.length ∧ ∃ Z' ρ' acc, scLoop ftg gt fe vs (ds.drop i) acc ρ' = some (out, ρo) ∧ Zle Z1 Z' ∧ Wd g.K fx Z' H' ρ' σ ([D] ++ ex) ∧ (∀ a ∈ ex, H' a = H a) ∧ H' D = some (SetK g.P g.w D (memK acc) acc.length) ∧ acc.length ≤ i,
    ⟨ds.length, by simp, Nat.zero_le _, Z1, ρ1, [], hl, .refl _, w1, f1, by rw [upd_same, s0]; rfl, Nat.le_refl _⟩, ?_⟩
  rintro i m H' ⟨rfl, hi, Z', ρ', acc, hlp, z1, w', f', hD', la⟩
  by_cases hlt : i < ds.length
  case neg =>
    have ei : i = ds.length := by omega
    rw [ei, List.drop_length] at hlp
    cases hlp
    refine .inl ⟨wk.stop i Z' H' z1 w'.zh (by omega), ⟨D, _, _, rfl, hD', ?_⟩⟩
    exact k _ ρo rfl _ Z' H' ⟨m1.z.trans z1, w'.drop, f'⟩ (.int _)
  case pos =>
    have hd : ds[i]? = some ds[i] := List.getElem?_eq_getElem hlt
    refine .inr ⟨wk.go i _ hd Z' H' z1 w'.zh, fun H'' => ds.length - (i + 1) < ds.length - i ∧ ∃ Z' ρ' acc, scLoop ftg gt fe vs (ds.drop (i + 1)) acc ρ' = some (out, ρo) ∧ Zle Z1 Z' ∧ Wd g.K fx Z' H'' ρ' σ ([D] ++ ex) ∧ (∀ a ∈ ex, H'' a = H a) ∧ H'' D = some (SetK g.P g.w D (memK acc) acc.length) ∧ acc.length ≤ i + 1,
      fun H'' ⟨h1, h2⟩ => ⟨_, h1, rfl, hlt, h2⟩, fun v H2 y => ?_⟩
    obtain ⟨Z2, g2, rv⟩ := wk.yld i _ hd Z' H' v H2 z1 w'.zh y
    rw [List.drop_eq_getElem_cons hlt] at hlp
    unfold scLoop at hlp
    have w2 := w'.gr g2
    have w2' : Wd g.K fx Z2 H2 (wipeR ρ' vs) (L2.wipe σ vs) ([D] ++ ex) := Wd.wipe w2 (wipe_length _ _) fun i hi => wipe_out hi
    have keepD : ∀ a ∈ [D] ++ ex, H2 a = H' a := fun a ha => by
      obtain ⟨fp, h⟩ := w'
      have n := h.th a (List.mem_append_right _ ha)
      cases q : H' a with
      | none => exact absurd q n
      | some o => exact g2.h a o q
    split at hlp
    case h_1 => cases hlp
    rename_i ρt ht
    refine sg fx Z2 H2 (wipeR ρ' vs) (L2.wipe σ vs) _ _ v ρt w2' rv ht _ fun σ2 w3 l3 f3 => ?_
    have hw : L2.wipe σ2 vs = L2.wipe σ vs := by
      rw [wipe_ext (σ := L2.wipe σ vs) (σ' := σ2) (vs := vs) l3 fun i hi => f3 i fun hh => hi (hj i hh)]
      exact wipe_ext (wipe_length _ _) fun i hi => wipe_out hi
    have back : ∀ i, i ∉ vs → σ[i]? = σ2[i]? := fun i hi => by
      rw [← wipe_out' (σ := σ) hi, ← hw, wipe_out' hi]
    have lback : σ.length = σ2.length := by rw [l3, wipe_length]
    refine ⟨hw, ?_⟩
    split at hlp
    · rename_i ρ2 hgt
      refine st fx Z2 H2 ρt σ2 _ w3 _ hgt (fun _ _ z => nomatch z) _ fun bb ρb zb Z3 H3 m3 => ?_
      cases zb
      rw [if_pos rfl]
      split at hlp
      · rename_i d ρ3 hfe
        refine se fx Z3 H3 ρ2 σ2 _ m3.wd _ hfe (fun _ _ z => nomatch z) _ fun dd ρd zd u Z4 H4 m4 ru => ?_
        cases zd
        split at hlp
        case h_2 => cases hlp
        rename_i kk hkk
        have hD4 : H4 D = some (SetK g.P g.w D (memK acc) acc.length) := by rw [m4.fr D (by simp), m3.fr D (by simp), keepD D (by simp)]; exact hD'
        have hb : acc.length + 1 < scanBound := by omega
        refine ⟨kk, _, _, ru.key hkk, hD4, hb, by omega, Z4, wipeR ρ3 vs, _, hlp, ((z1.trans g2.z).trans m3.z).trans m4.z, ?_, ?_, ?_, ?_⟩
        · exact Wd.wipe (Wd.updEx (a := D) (ex := ex) m4.wd setK_no).1 lback back
        · intro a ha
          rw [(Wd.updEx (a := D) (ex := ex) (o := SetK g.P g.w D (fun j => memK acc j || decide (j = kk)) (if memK acc kk = true then acc.length else acc.length + 1)) m4.wd setK_no).2 a ha, m4.fr a (by simp [ha]), m3.fr a (by simp [ha]), keepD a (by simp [ha])]
          exact f' a ha
        · rw [upd_same]
          congr 1
          by_cases hm : memK acc kk = true
          · rw [if_pos hm, if_pos hm]
            congr 1
            funext j
            by_cases hj : j = kk
            · subst hj; simp [hm]
            · simp [hj]
          · rw [if_neg hm, if_neg hm, List.length_append]
            congr 1
            funext j
            simp only [memK, List.any_append, List.any_cons, List.any_nil, Bool.or_false]
            congr 1
            by_cases hj : j = kk
            · subst hj; rfl
            · have : kk ≠ j := fun z => hj z.symm
              simp [hj, this]
        · by_cases hm : memK acc kk = true
          · rw [if_pos hm]; omega
          · rw [if_neg hm, List.length_append]; simp; omega
      · cases hlp
    · rename_i ρ2 hgt
      refine st fx Z2 H2 ρt σ2 _ w3 _ hgt (fun _ _ z => nomatch z) _ fun bb ρb zb Z3 H3 m3 => ?_
      cases zb
      rw [if_neg Bool.false_ne_true]
      refine ⟨by omega, Z3, wipeR ρ2 vs, acc, hlp, (z1.trans g2.z).trans m3.z, Wd.wipe m3.wd lback back, ?_, by rw [m3.fr D (by simp), keepD D (by simp)]; exact hD', by omega⟩
      intro a ha
      rw [m3.fr a (by simp [ha]), keepD a (by simp [ha])]
      exact f' a ha
    · cases hlp
theorem se_lenSet {iter elt : Expr} {ifs : List Expr} {scope : Scope} {own : List (Str × Nat)} {fi : F (List D)} {ftg : D → Rho → Option Rho} {gt : F Bool} {fe : F D} {js : List Nat} {cpos : Pos} (hm : g.mg "len" = none) (hi : SI g tg iter fi) (ok : BlkOk g.N g.sc scope own)
    (hg : SG (g.blk scope) tg ftg js) (hj : ∀ j ∈ js, j ∈ own.map (·.2)) (ht : STs (g.blk scope) ifs gt) (he : SE (g.blk scope) elt fe) (hgl : g.sc.names.lookup ("len" : Str) = some .globalImplicit := by rfl) (hs : ∀ env x, foldedSetIterable iter env x = pure x := by intro _ _; rfl)
    (hst : ∀ env, starEach [.SetComp elt [⟨tg, iter, ifs, 0⟩] scope cpos] env = (false, eval (.SetComp elt [⟨tg, iter, ifs, 0⟩] scope cpos) env) :: starEach [] env := by intro _; rfl) :
    SE g (.Call (.Name "len" p) [.SetComp elt [⟨tg, iter, ifs, 0⟩] scope cpos] [] pos) (fLenSet fi ftg gt fe (own.map (·.2))) := by
  obtain ⟨wi, pi, si⟩ := hi
  obtain ⟨tgt, pg, sg⟩ := hg
  obtain ⟨tt, pt, st⟩ := ht
  obtain ⟨te, pe, se⟩ := he
  refine ⟨_, fun X is => ?_, sem_sc si sg hj st se⟩
  rw [← is.prog, ← is.w]
  exact pe_callB cr_lenK (is.gl hgl) (by rw [is.mg]; exact hm) rfl (pa_cons (pe_scK is.calm (by rw [is.N]; exact is.nd) (pi X is) (by rw [is.N, is.sc]; exact ok) (fun s H C cl fp => pg _ (is.blk scope s H cl C fp)) (fun s H C cl fp => pt _ (is.blk scope s H cl C fp)) (fun s H C cl fp => pe _ (is.blk scope s H cl C fp)) (hs _)) pa_nil (hst _)) (by decide) (by decide) (hst _) rfl
end
end FL
set_option Elab.async false
set_option linter.all false
set_option maxRecDepth 100000
set_option maxHeartbeats 2000000
/-! S5: {k: v}, k a tuple -/
namespace FL
open PySem PySem.Spec PyProof.Rows L2
theorem dict_pairsX {prog : Program} {w : World} {K : Type} [DecidableEq K] {knd : HeapKind prog w K} {A : Around} {E : Value → Shared → Prop} {s : Shared} {env : Env} {keys : List (Option Expr)} {values : List Expr} {pos : Pos} {pairs : List (Sem Value × Sem Value)} {Q : Value → Shared → Prop}
    (hu : knd.room A) (hshape : (evalEachOpt keys env).zip ((evalEach values env).map fun v => do
      let x ← v
      standAt pos
      pure x) = pairs.map fun p => (some p.1, p.2)) (h0 : pairs ≠ []) (hlen : pairs.length ≤ 15)
    (h : wpAny (model prog w) A (evalPairs pairs) (fun vs s₁ => ∃ ps, CarriesH knd s₁.heap vs ps ∧ Heap.DictOfH knd s₁.heap s.heap.objs.size [] ∧ ∀ (h' : Heap) (tk : Nat), Heap.DictOfH knd h' s.heap.objs.size (storedAllH [] ps) → Heap.SameBut s.heap.objs.size s₁.heap h' →
      Q (.ref s.heap.objs.size) { heap := h', gens := s₁.gens, drawn := s₁.drawn, toks := tk, os := s₁.os }) E { s with heap := s.heap.push { cls := .type "dict", data := .dict #[] } }) : wpAny (model prog w) A (eval (.Dict keys values pos) env) Q E s := by
  rw [arm_eval_Dict, hshape, dictDisplay_pairs pairs h0 (by omega)]
  refine wpAny_bind (wpAny_standAt (wpAny_bind (wpAny_subDictH hu hlen (wpAny_mono h (fun vs s₁ h₁ => ?_) fun _ _ e => e))))
  obtain ⟨ps, hc, hm, hq⟩ := h₁
  exact ⟨ps, hc, hm, fun h' tk a b => wpAny_pure (hq h' tk a b)⟩
def tDsp (te tv : TE) : TE := fun σ H Q => ∀ p, H p = none → te σ (upd H p (.dT [])) fun x H1 => tv σ H1 fun y H2 => H2 p = some (.dT []) ∧ ∃ (b : Addr) (ks : List Key), x = .ref b ∧ H2 b = some (.tup (ks.map kV)) ∧ Q (.ref p) (upd H2 p (.dT [(ks, y)]))
theorem pe_dsp {X : Cx} {k v : Expr} {pos : Pos} {tk tv : TE} (hu : X.A.units < cLine) (hk : PE X k tk) (hv : PE X v tv) : PE X (.Dict [some k] [v] pos) (tDsp tk tv) := by
  refine ⟨fun pins s σ H Q I q => ?_⟩
  have hn := HOk.fresh I.hok (Nat.le_refl s.heap.objs.size)
  have I1 := Inv.laid (t' := s.toks) I (fun x y q => Heap.get?_push_of_some { cls := Value.type "dict", data := Data.dict #[] } q) (Nat.le_refl s.heap.objs.size) (dt_empty s.heap (Inv.big I))
  have pr : PPs X pos [some k] [v] [(tk, tv)] := pps_cons hk hv pps_nil
  refine dict_pairsX (knd := tupleKind (mixKind X.prog X.w)) hu (zip_pairTrees [some k] [v] X.env pos rfl rfl) (by simp [pairTrees]) (by simp [pairTrees]) ?_
  refine thn (pr.run pins _ σ (upd H s.heap.objs.size (.dT [])) (fun ps H2 => match ps with
    | [(x, y)] => H2 s.heap.objs.size = some (.dT []) ∧ ∃ (b : Addr) (ks : List Key), x = .ref b ∧ H2 b = some (.tup (ks.map kV)) ∧ Q (.ref s.heap.objs.size) (upd H2 s.heap.objs.size (.dT [(ks, y)]))
    | _ => False) I1 (q s.heap.objs.size hn)) ?_
  · rintro ws s2 ⟨ps, H2, I2, rel, hps⟩
    cases rel with
    | nil => exact hps.elim
    | cons r0 rest =>
    rename_i p0 w0 ps ws
    cases rest with
    | cons _ _ => exact hps.elim
    | nil =>
    obtain ⟨x, y⟩ := p0
    obtain ⟨w1, w2⟩ := w0
    obtain ⟨ru, rr⟩ := r0
    obtain ⟨e, b, ks, rfl, hb, q2⟩ := hps
    have ru : w1 = .ref b := ru
    subst ru
    obtain ⟨z, hd, xs, kt, dd⟩ := dt_of I2.hok e
    cases kt
    refine ⟨[(ks, b, w2)], ?_, dd, fun h' tk dd' hs => ?_⟩
    · rw [CarriesH.eq_2, CarriesH.eq_1]
      exact ⟨rfl, rfl, key_of I2.hok hb, trivial⟩
    · obtain ⟨o, es, ep, ho, hx, hdt, hes, _, hnd⟩ := dd'
      refine ⟨.ref s.heap.objs.size, upd H2 s.heap.objs.size (.dT [(ks, y)]), d_write I2 (by rw [e]; trivial) hs ⟨o, ho⟩ ⟨?_, hd, [(ks, b, w2)], .cons ⟨rfl, ?_, rr⟩ .nil, o, es, ep, ho, hx, hdt, hes, hnd⟩, rfl, q2⟩
      · rw [sizeLine_eq]; simp
      · rw [upd_ne (ne_of hb e fun z => nomatch z)]
        exact hb
section
variable {g : Gm} {fx : Fx} {Z Z' H H' : Hp} {ρ ρ1 : Rho} {σ : L2.St} {ex : List Addr}
variable {a b : Expr} {fa fb : F D} {pos : Pos}
/-- {a: b}, a a tuple: the dict is made first -/
def fDsp (fa fb : F D) : F W := fa.bind fun k => fb.bind fun v => F.of ((tkey? k).map fun ks => .dt [(ks, v)])
theorem sw_dsp (ha : SE g a fa) (hb : SE g b fb) : SW g (.Dict [some a] [b] pos) (fDsp fa fb) := by
  obtain ⟨ta, pa, sa⟩ := ha
  obtain ⟨tb, pb, sb⟩ := hb
  refine ⟨tDsp ta tb, fun X is => pe_dsp (Nat.lt_of_succ_lt is.hu) (pa X is) (pb X is), fun fx Z H ρ σ ex w r e x Q k => ?_⟩
  intro p hp
  obtain ⟨w1, f1⟩ := (Mv.refl (g := g) w).new (o := .dT []) hp
  have fr1 : ∀ {Z1 H1 : Hp} {ρ1 : Rho}, Mv g fx Z (upd H p (.dT [])) ρ1 σ ([p] ++ ex) Z1 H1 → Mv g fx Z H ρ1 σ ex Z1 H1 := fun m => ⟨m.z, Wd.drop m.wd, fun a ha => (m.fr a (by simp [ha])).trans (f1 a ha)⟩
  have x1 : XC g fx Z (upd H p (.dT [])) σ ([p] ++ ex) r := fun e' ρ' q c d Z2 H2 m er => x e' ρ' q c d Z2 H2 (fr1 m) er
  refine se_run sa w1 e x1 fun dk ρ1 v Z1 H1 e1 m1 r1 x2 => ?_
  refine se_run sb m1.wd e1 x2 fun dv ρ2 u Z2 H2 e2 m2 r2 x3 => ?_
  obtain ⟨w', h1, h2⟩ := of_some e2
  obtain ⟨ks, h3, rfl⟩ := Option.map_eq_some_iff.mp h1
  have hp2 : H2 p = some (.dT []) := by rw [m2.fr p (by simp), m1.fr p (by simp), upd_same]
  obtain ⟨bb, rfl, hb⟩ := (r1.mono m2.z).tkey m2.zh h3
  refine ⟨hp2, bb, ks, rfl, hb, ?_⟩
  have m := m1.trans m2
  obtain ⟨w3, f3⟩ := Wd.updEx (a := p) (ex := ex) (o := .dT [(ks, u)]) m.wd
  refine k _ ρ2 h2 (.ref p) Z2 _ [p] m.z w3 (fun a ha => ?_) (.dt upd_same rfl (.one r2))
  rw [f3 a ha, m.fr a (by simp [ha])]
  exact f1 a ha
end
end FL
set_option Elab.async false
set_option linter.all false
set_option maxRecDepth 100000
set_option maxHeartbeats 2000000
/-! S6: d.items() of a dict of tuple keys, walked -/
namespace FL
open PySem PySem.Spec PyProof.Rows L2
theorem frzT2 {X : Cx} {pins : List (Addr × Obj)} {σ : L2.St} {H : Hp} {s : Shared} {d : Addr} {o : Obj} {kvs : List (List Key × V)} (I : L2.Inv X pins σ H s) (h : H d = some (.frz o (.dT kvs))) :
    (d == sysModules) = false ∧ s.heap.get? d = some o ∧ o.ExactDict ∧ ∃ es ep, o.data = .dict es ep ∧ es.size = kvs.length ∧ ∀ (i : Nat) (k : List Key) (v : V), kvs[i]? = some (k, v) → ∃ en q, es[i]? = some en ∧ en.key = .ref q ∧ H q = some (.tup (k.map kV)) ∧ RelV v en.val := by
  obtain ⟨hd, z, hs, xs, pr, o', es, ep, ho, hx, hdt, he, _⟩ := I.hok d _ h
  have e : o' = o := by rw [hd] at ho; exact (Option.some.inj ho).symm
  subst e
  refine ⟨hs, hd, hx, es, ep, hdt, ?_, fun i k v e => ?_⟩
  · have l1 := size_of_entries he
    have l2 := Paired.length pr
    omega
  · obtain ⟨b, hb, e1, e2, e3⟩ := paired_get pr e
    have q := entry_at he i
    rw [hb] at q
    exact ⟨_, b.2.1, q, rfl, e2, e3⟩
def ItiT (d : Addr) (o : Obj) (kvs : List (List Key × V)) : It where
  go := fun i H => H d = some (.frz o (.dT kvs)) ∧ i < kvs.length
  yld := fun i H x H' => ∃ (T q : Addr) (k : List Key) (v : V), kvs[i]? = some (k, v) ∧ x = .ref T ∧ H q = some (.tup (k.map kV)) ∧ H T = none ∧ H' = upd H T (.tup [.ref q, v])
  stop := fun i H => H d = some (.frz o (.dT kvs)) ∧ kvs.length ≤ i
theorem turn_itemsT {P : Program} {w : World} {K : PySem.W.Frag} {d : Addr} {o : Obj} {es : Array DictEntry} {ep : Nat} {kvs : List (List Key × V)} {elts : List Expr} {kk : Nat} {tpos : Pos} (it : Addr) (hne : d ≠ it) (hod : o.data = .dict es ep) :
    Turn P w K (.Tuple elts kk tpos) (ItiT d o kvs) [it] it fun i h => ∃ ok ov, IsItemIter h it d i kvs.length ep ok ov where
  mem := by simp
  obj := fun i h st b hb => by
    have e : b = it := by simpa using hb
    subst e
    obtain ⟨ok, ov, e⟩ := st
    exact ⟨_, e, fun v z => nomatch z⟩
  keep := fun i h h' st k => by
    obtain ⟨ok, ov, e⟩ := st
    exact ⟨ok, ov, k it (by simp) _ e⟩
  item := fun X hP hw hK hc i pins s σ H E I hf st hg => by
    subst hP hw
    obtain ⟨hd, hi⟩ := hg
    obtain ⟨hs, hgd, hx, es', ep', hdt, hsz, ent⟩ := frzT2 I hd
    obtain ⟨e1, e2⟩ := dict_ep hod hdt
    subst e1 e2
    obtain ⟨ok, ov, he⟩ := st
    have hkv : kvs[i]? = some (kvs[i].1, kvs[i].2) := List.getElem?_eq_getElem hi
    obtain ⟨en, q, h1, h2, h3, h4⟩ := ent i _ _ hkv
    have hii : i < es'.size := by omega
    have hen : es'[i] = en := by
      have := Array.getElem?_eq_getElem hii
      rw [h1] at this
      exact (Option.some.inj this).symm
    rw [← hsz] at he
    have hlt := Heap.lt_size he
    have raw : s.heap.DictRaw d es' ep' := ⟨o, hgd, hx, hod⟩
    refine wpAny_pyNext_items_item_raw he raw hii fun h' ho hT hz hk => ⟨_, rfl, wpAny_letOwnedTupleGo_items ho fun h'' he' sb => ?_⟩
    have hT2 := (sb.2 s.heap.objs.size (Nat.ne_of_gt hlt)).trans hT
    have new : ObjOk X.prog X.w (upd H s.heap.objs.size (.tup [.ref q, kvs[i].2])) h'' s.heap.objs.size (.tup [.ref q, kvs[i].2]) := ⟨by show 2 ≤ sizeLine; decide, [es'[i].key, es'[i].val], .cons (by rw [hen, h2]; rfl) (.cons (by rw [hen]; exact h4) .nil), ⟨_, hT2, rfl, 0, rfl⟩⟩
    have I1 := Inv.turnedNew (t' := s.toks) I (fun b ob hb e => (sb.2 b (by simpa using hb)).trans (hk b ob (by simpa using hb) e)) hf (Nat.le_refl s.heap.objs.size) new
    refine ⟨.ref s.heap.objs.size, upd H s.heap.objs.size (.tup [.ref q, kvs[i].2]), I1, rfl, ⟨_, q, _, _, hkv, rfl, h3, HOk.fresh I.hok (Nat.le_refl _), rfl⟩, ⟨_, _, by rw [hsz] at he'; exact he'⟩, fun b hb => ?_⟩
    have e : b = it := by simpa using hb
    subst e
    rw [upd_ne (Nat.ne_of_lt hlt)]
    exact (hf b (by simp)).1
  done := fun X hP hw hK hc i pins s σ H E I hf st hg => by
    subst hP hw
    obtain ⟨hd, hi⟩ := hg
    obtain ⟨f0, f1, f2, f3, f4, f5⟩ := hf it (by simp)
    obtain ⟨hs, hgd, hx, es', ep', hdt, hsz, ent⟩ := frzT2 I hd
    obtain ⟨e1, e2⟩ := dict_ep hod hdt
    subst e1 e2
    obtain ⟨ok, ov, he⟩ := st
    rw [← hsz] at he
    have raw : s.heap.DictRaw d es' ep' := ⟨o, hgd, hx, hod⟩
    exact wpAny_pyNext_items_end_raw (I.ok.hd hc) he raw (by omega) fun h' eb => ⟨rfl, Inv.turned I (fun b ob hb e => eb b ob hb e) f0 f1 f3 f4 f5⟩
  self := fun A i s Q E st h => by
    obtain ⟨ok, ov, e⟩ := st
    exact W.kcp_self e h
def iItemsT (td : TE) : TI := fun σ H R => td σ H fun x H1 => ∃ d o kvs, x = V.ref d ∧ H1 d = some (.frz o (.dT kvs)) ∧ R (ItiT d o kvs) H1
theorem pi_itemsT {X : Cx} {e : Expr} {td : TE} {apos cpos : Pos} {elts : List Expr} {kk : Nat} {tpos : Pos} (he : PE X e td) (hbase : attributeBase e "items" X.env (eval e X.env) = eval e X.env := by rfl) (hline : (apos.endLine == cpos.line) = true := by rfl) :
    PI X (.Tuple elts kk tpos) (.Call (.Attribute e "items" apos) [] [] cpos) (iItemsT td) := by
  refine ⟨fun pins s σ H R I h => wpAny_Call_method hbase rfl hline F.plainAttrs_dict F.slot_dict_items F.type_dict_items (thn (he.run pins s σ H _ I h) ?_)⟩
  rintro u s1 ⟨x, H1, I1, rx, d, o, kvs, rfl, hd, q⟩
  cases rx
  obtain ⟨hs, hgd, hx, es, ep, hdt, hsz, ent⟩ := frzT2 I1 hd
  have hlt := Heap.lt_size hgd
  have raw : s1.heap.DictRaw d es ep := ⟨o, hgd, hx, hdt⟩
  refine ⟨⟨o, hgd, hx.1⟩, fun a ha => ?_, ?_⟩
  · cases ha
    exact ⟨o, hgd, hx.2.1⟩
  · have I2 := Inv.kept (t' := s1.toks) I1 fun b ob q => Heap.get?_push_of_some { cls := Value.type "dict_items", data := Data.fields #[Value.ref d] } q
    refine method_meetsIn F.slot_dict_items F.entry_dict_items rfl (PySem.evalArgs_none ⟨rfl, ⟨o, hgd, hx.1⟩, F.args_dict_items_1 (.ref d), _, meets_dict_items_raw d hs, ⟨es, ep, raw⟩, ?_⟩)
    refine wpAny_pyIter_items_raw ⟨_, Heap.get?_push_size s1.1 rfl, rfl, rfl⟩ ⟨o, Heap.get?_push_of_some _ hgd, hx, hdt⟩ ?_
    refine pi_one I2 _ (turn_itemsT _ (by
      show d ≠ (s1.heap.push _).objs.size
      rw [Heap.size_push]
      exact Nat.ne_of_lt (Nat.lt_succ_of_lt hlt)) hdt) ⟨.none, .none, ?_⟩ q
    rw [← hsz]
    exact Heap.get?_push_size _ rfl
end FL
set_option Elab.async false
set_option linter.all false
set_option maxRecDepth 100000
set_option maxHeartbeats 2000000
/-! S7: {k: v for x in xs}, the keys tuples -/
namespace FL
open PySem PySem.Spec PyProof.Rows L2
def tDcT (wi : TI) (g : TG) (tt : TT) (tk tv : TE) (vs : List Nat) : TE := fun σ H Q =>
  wi σ H fun J H1 => ∀ D : Addr, H1 D = none → ∃ W : Nat → Nat → Hp → Prop, (∃ m, W 0 m (upd H1 D (.dT []))) ∧ ∀ i m H, W i m H →
    (J.stop i H ∧ Q (.ref D) H) ∨ (J.go i H ∧ ∃ Nx : Hp → Prop, (∀ H', Nx H' → ∃ m', m' < m ∧ W (i + 1) m' H') ∧ ∀ x H', J.yld i H x H' → g x (L2.wipe σ vs) H' fun σ2 H2 => L2.wipe σ2 vs = L2.wipe σ vs ∧ tt σ2 H2 fun b H3 =>
      if b = true then tk σ2 H3 fun y H4 => tv σ2 H4 fun z H5 => ∃ (kvs : List (List Key × V)) (ks : List Key) (b : Addr), y = .ref b ∧ H5 b = some (.tup (ks.map kV)) ∧ H5 D = some (.dT kvs) ∧ kvs.length < sizeLine ∧ Nx (upd H5 D (.dT (putK kvs ks z))) else Nx H3)
theorem newDict_okT {P : Program} {w : World} {A : Around} {E : Value → Shared → Prop} {s : Shared} {Q : Value → Shared → Prop} (h : Q (.ref s.heap.objs.size) { s with heap := s.heap.push { cls := .type "dict", data := .dict #[] } }) : wpAny (model P w) A newDict Q E s := by
  unfold newDict
  exact wpAny_newObj_type h (by first | trivial | (show (0 : Nat) ≤ _; omega))
theorem d_dictSetT {X : Cx} {pins : List (Addr × Obj)} {σ : L2.St} {H : Hp} {s : Shared} {E : Value → Shared → Prop} {D b : Addr} {kvs : List (List Key × V)} {ks : List Key} {v : V} {r : Value} {Q : Unit → Shared → Prop} (hu : X.A.units < cLine)
    (I : L2.Inv X pins σ H s) (hb : H b = some (.tup (ks.map kV))) (hD : H D = some (.dT kvs)) (hz : kvs.length < sizeLine) (rv : RelV v r) (h : ∀ s', L2.Inv X pins σ (upd H D (.dT (putK kvs ks v))) s' → Q () s') : wpAny (model X.prog X.w) X.A (dictSet D (.ref b) r) Q E s := by
  obtain ⟨z, hd, xs, kt, dd⟩ := dt_of I.hok hD
  have hl := length_putK kvs ks v
  refine wpAny_dictSet_heap (knd := tupleKind (mixKind X.prog X.w)) hu (key_of I.hok hb) dd (fun h' dd' hs => ?_) (by rw [← Paired.length kt]; exact z)
  obtain ⟨q, es, ep, hq, h2, h3, h4, _, h5⟩ := dd'
  refine h _ (d_write I (by rw [hD]; trivial) hs ⟨q, hq⟩ ⟨by omega, hd, storedH xs ks b r, KT.keeps (KT.put kt ks hb rv) fun c ys ec => ?_, q, es, ep, hq, h2, h3, h4, h5⟩)
  rw [upd_ne (ne_of ec hD fun z => nomatch z)]
  exact ec
theorem dc_coreT {X : Cx} {pins : List (Addr × Obj)} {s : Shared} {σ : L2.St} {H : Hp} {Q : VK} {kx vx tg iter : Expr} {ifs : List Expr} {scope : Scope} {own : List (Str × Nat)} {pos pos' : Pos} {wi : TI} {g : TG} {tt : TT} {tk tv : TE} {use : Option (Value → Sem Unit)} {Qf : Value → Shared → Prop}
    (hu : X.A.units < cLine) (hc : X.calm = true) (hN : X.N.Nodup) (I : L2.Inv X pins σ H s) (hi : PI X tg iter wi) (ok : BlkOk X.N X.env.scope scope own)
    (hg : ∀ s H C cl fp, PG (X.blk s H scope (compEnvC scope cl C X.env) fp) tg g) (ht : ∀ s H C cl fp, PTs (X.blk s H scope (compEnvC scope cl C X.env) fp) ifs tt) (hk : ∀ s H C cl fp, PE (X.blk s H scope (compEnvC scope cl C X.env) fp) kx tk) (he : ∀ s H C cl fp, PE (X.blk s H scope (compEnvC scope cl C X.env) fp) vx tv)
    (hs : ∀ x, foldedSetIterable iter X.env x = pure x) (h : tDcT wi g tt tk tv (own.map (·.2)) σ H Q)
    (hRR : ∀ D C s' m H', L2.Inv X pins σ H' s' → Q (.ref D) H' → s'.heap.Ns C m → FpOk X pins H' C → compPost (model X.prog X.w) X.A X.xe use Qf (.ref D) C (.ok .next) s') :
    wpAny (model X.prog X.w) X.A (comprehension (.DictComp kx vx [⟨tg, iter, ifs, 0⟩] scope pos) scope X.env pos' newDict false (eval iter X.env) use) Qf X.xe s := by
  have hfree : ∀ y ∈ scope.names, y.2 = .free → ∃ c, X.env.cells.lookup y.1 = some c := fun y hy e => (ok.free y hy e).elim (fun k => I.ok.has y.1 (.inl k)) fun k => I.ok.has y.1 (.inr k)
  refine wpAny_comprehension_free rfl hs (closure_ok hfree) ok.kind (fun y hy e => by rw [ok.uniq y hy, e]) (thn (hi.run pins s σ H _ I h) fun xv s1 hx => thn hx fun itv s2 h2 => ?_)
  obtain ⟨it, fp, tn, J, H2, e, I2, T, st2, f2, q⟩ := h2
  subst e
  refine newDict_okT (newEnv_comp ?_)
  generalize hD : s2.heap.objs.size = D at *
  have hDn : H2 D = none := HOk.fresh I2.hok (Nat.le_of_eq hD)
  obtain ⟨W, ⟨m0, w0⟩, turn⟩ := q D hDn
  generalize hs3 : ({ heap := s2.heap.push { cls := Value.type "dict", data := Data.dict #[] }, gens := s2.gens, drawn := s2.drawn, toks := s2.toks, os := s2.os } : Shared) = s3 at *
  have h3 : s3.heap = s2.heap.push { cls := Value.type "dict", data := Data.dict #[] } := by rw [← hs3]
  have kp : ∀ b o, s2.heap.get? b = some o → s3.heap.get? b = some o := fun b o e => by rw [h3]; exact Heap.get?_push_of_some _ e
  have I3 : L2.Inv X pins σ (upd H2 D (.dT [])) s3 := by
    rw [← hs3]
    refine Inv.laid I2 (fun b o e => Heap.get?_push_of_some _ e) (Nat.le_of_eq hD) ?_
    have := dt_empty (P := X.prog) (w := X.w) (H := upd H2 D (.dT [])) s2.heap (Inv.big I2)
    rw [hD] at this
    exact this
  have sz : ∀ b ∈ fp, b < s2.heap.objs.size := fun b hb => by
    obtain ⟨o, e, _⟩ := T.obj 0 s2.heap st2 b hb
    exact Heap.lt_size e
  have f3 : ∀ b ∈ fp, FpOk X pins (upd H2 D (.dT [])) b ∧ b < s3.heap.objs.size := fun b hb => by
    have hlt := sz b hb
    refine ⟨⟨by rw [upd_ne (by rw [← hD]; exact Nat.ne_of_lt hlt)]; exact (f2 b hb).1, (f2 b hb).2⟩, ?_⟩
    rw [h3, Heap.size_push]
    exact Nat.lt_succ_of_lt hlt
  have st3 : tn 0 s3.heap := T.keep 0 s2.heap s3.heap st2 fun b _ o e => kp b o e
  have I4 := block_start I3 ok hN f3
  have st4 : tn 0 (pushCells (s3.heap.push { cls := Value.type "dict", data := Data.dict #[] }) scope.names) := T.keep 0 s3.heap _ st3 fun b _ o e => pushCells_keeps scope.names _ b o (Heap.get?_push_of_some _ e)
  change codeAny (model X.prog X.w) X.A (Code.compStart (.DictComp kx vx [⟨tg, iter, ifs, 0⟩] scope pos) 0 (.ref it) (.ref D) (compEnvC scope (cellsFrom (s3.heap.objs.size + 1) scope.names (cloFrom X.env.cells scope.names [])) s3.heap.objs.size X.env)) (compPost (model X.prog X.w) X.A X.xe use Qf (.ref D) s3.heap.objs.size) { s3 with heap := pushCells (s3.heap.push { cls := Value.type "dict", data := Data.dict #[] }) scope.names }
  have pg := hg s3 (upd H2 D (.dT [])) s3.heap.objs.size (cellsFrom (s3.heap.objs.size + 1) scope.names (cloFrom X.env.cells scope.names [])) fp
  have pt := ht s3 (upd H2 D (.dT [])) s3.heap.objs.size (cellsFrom (s3.heap.objs.size + 1) scope.names (cloFrom X.env.cells scope.names [])) fp
  have pk := hk s3 (upd H2 D (.dT [])) s3.heap.objs.size (cellsFrom (s3.heap.objs.size + 1) scope.names (cloFrom X.env.cells scope.names [])) fp
  have pe := he s3 (upd H2 D (.dT [])) s3.heap.objs.size (cellsFrom (s3.heap.objs.size + 1) scope.names (cloFrom X.env.cells scope.names [])) fp
  have cL : (compEnvC scope (cellsFrom (s3.heap.objs.size + 1) scope.names (cloFrom X.env.cells scope.names [])) s3.heap.objs.size X.env).locals = s3.heap.objs.size := rfl
  generalize compEnvC scope (cellsFrom (s3.heap.objs.size + 1) scope.names (cloFrom X.env.cells scope.names [])) s3.heap.objs.size X.env = cenv at *
  have nfp : ∀ b ∈ fp, upd H2 D (.dT []) b = none := fun b hb => (f3 b hb).1.1
  have stat : ∀ {σ' : L2.St} {H' : Hp} {s' : Shared}, L2.Inv (X.blk s3 (upd H2 D (.dT [])) scope cenv fp) [] σ' H' s' → (∀ b ∈ fp, H' b = none) → ∀ b ∈ fp, FpOk (X.blk s3 (upd H2 D (.dT [])) scope cenv fp) [] H' b := fun {σ' H' s'} I' hn b hb =>
    ⟨hn b hb, (I'.ok.exf b hb).1, I'.ok.exfs b hb, .inl hb, fun x c e => (I'.ok.exf b hb).2 x c e, fun p hp => by simp at hp⟩
  have loop := compLoop_anyD (prog := X.prog) (w := X.w) (A := X.A) (R := compPost (model X.prog X.w) X.A X.xe use Qf (.ref D) s3.heap.objs.size) (s := { s3 with heap := pushCells (s3.heap.push { cls := Value.type "dict", data := Data.dict #[] }) scope.names }) (env := cenv) (kx := kx) (vx := vx) (target := tg) (iter := iter) (ifs := ifs) (scope := scope) (pos := pos) (it := .ref it) (D := D)
    (fun n s' => ∃ i H', L2.Inv (X.blk s3 (upd H2 D (.dT [])) scope cenv fp) [] (L2.wipe σ (own.map (·.2))) H' s' ∧ tn i s'.heap ∧ (∀ b ∈ fp, H' b = none) ∧ W i n H')
    (fun n s5 ⟨i, H5, I5, st5, n5, w5⟩ => by
      rcases turn i n H5 w5 with ⟨stop, qq⟩ | ⟨go, Nx, hNx, step⟩
      · have td := T.done (X.blk s3 (upd H2 D (.dT [])) scope cenv fp) rfl rfl rfl hc i [] s5 (L2.wipe σ (own.map (·.2))) H5 (fun _ _ => False) I5 (stat I5 n5) st5 stop
        refine thnF td fun r s6 hr => ?_
        obtain ⟨hr, I6⟩ := hr
        subst hr
        have I7 := Inv.call' I3 I6.os I6.base I6.hok I6.bare fun b hb => ⟨(f3 b hb).1.2.2.2.1, (f3 b hb).1.2.1, (f3 b hb).1.2.2.2.2.1, (f3 b hb).1.2.2.2.2.2⟩
        have nC : H5 s3.heap.objs.size = none := by have := I6.free; rw [← cL]; exact this
        obtain ⟨m, hn, _⟩ := I6.loc
        exact hRR D s3.heap.objs.size s6 m H5 I7 qq (by rw [← cL]; exact hn) (Inv.fpOk I3 (Nat.le_refl _) nC)
      · have ti := T.item (X.blk s3 (upd H2 D (.dT [])) scope cenv fp) rfl rfl rfl hc i [] s5 (L2.wipe σ (own.map (·.2))) H5 (fun _ _ => False) I5 (stat I5 n5) st5 go
        refine thnF ti fun r s6 hr => ?_
        obtain ⟨u, hr, h6⟩ := hr
        subst hr
        refine thnF h6 fun _ s7 h7 => ?_
        obtain ⟨x, H7, I7, r7, y7, st7, n7⟩ := h7
        have I7' := Inv.pinned I7 (stat I7 n7) (T.obj (i + 1) s7.heap st7)
        refine thnF (pg.run ([] ++ pinsAt fp s7.heap) s7 (L2.wipe σ (own.map (·.2))) H7 x u _ I7' r7 (step x H7 y7)) fun _ s8 h8 => ?_
        obtain ⟨σ8, H8, I8, hw8, q8⟩ := h8
        refine thnF (pt.run ([] ++ pinsAt fp s7.heap) s8 σ8 H8 _ I8 q8) fun b s9 h9 => ?_
        obtain ⟨H9, I9, q9⟩ := h9
        have fin : ∀ {s' : Shared} {H' : Hp}, L2.Inv (X.blk s3 (upd H2 D (.dT [])) scope cenv fp) ([] ++ pinsAt fp s7.heap) σ8 H' s' → Nx H' → ∃ m, m < n ∧ ∃ i H', L2.Inv (X.blk s3 (upd H2 D (.dT [])) scope cenv fp) [] (L2.wipe σ (own.map (·.2))) H' s' ∧ tn i s'.heap ∧ (∀ b ∈ fp, H' b = none) ∧ W i m H' := fun {s' H'} I' nx => by
          obtain ⟨m', hm, w'⟩ := hNx H' nx
          have pin' : ∀ b, b ∈ fp → ∀ o, s7.heap.get? b = some o → s'.heap.get? b = some o ∧ H' b = none := fun b hb o e => by
            have z := I'.pin (b, o) (List.mem_append_right _ (List.mem_append_right [] (mem_pinsAt hb e)))
            exact ⟨z.1, z.2.1⟩
          have hl : (L2.wipe σ (own.map (·.2))).length = σ8.length := by rw [← hw8, wipe_length]
          refine ⟨m', hm, i + 1, H', Inv.weak (Inv.unpinned I') hl fun j v e => (wipe_some (by rw [hw8]; exact e)).1, T.keep (i + 1) s7.heap s'.heap st7 fun b hb o e => (pin' b hb o e).1, fun b hb => ?_, w'⟩
          obtain ⟨o, e, _⟩ := T.obj (i + 1) s7.heap st7 b hb
          exact (pin' b hb o e).2
        cases b with
        | false =>
          rw [if_neg Bool.false_ne_true] at q9 ⊢
          exact fin I9 q9
        | true =>
          rw [if_pos rfl] at q9 ⊢
          refine thnF (pk.run ([] ++ pinsAt fp s7.heap) s9 σ8 H9 _ I9 q9) fun z s10 h10 => ?_
          obtain ⟨yv, H10, I10, r10, q10⟩ := h10
          refine thnF (pe.run ([] ++ pinsAt fp s7.heap) s10 σ8 H10 _ I10 q10) fun z2 s11 h11 => ?_
          obtain ⟨zv, H11, I11, r11, kvs, ks, b, rfl, hb, hD11, hz11, nx⟩ := h11
          have r10 : z = .ref b := r10
          subst r10
          exact d_dictSetT (X := X.blk s3 (upd H2 D (.dT [])) scope cenv fp) hu I11 hb hD11 hz11 r11 fun s12 I12 => fin I12 nx) m0 ⟨0, _, I4, st4, nfp, w0⟩
  exact codeAny_compStart_dict loop (T.self X.A 0 _ _ _ st4 loop)
theorem pe_dcT {X : Cx} {kx vx tg iter : Expr} {ifs : List Expr} {scope : Scope} {own : List (Str × Nat)} {pos : Pos} {wi : TI} {g : TG} {tt : TT} {tk tv : TE}
    (hu : X.A.units < cLine) (hc : X.calm = true) (hN : X.N.Nodup) (hi : PI X tg iter wi) (ok : BlkOk X.N X.env.scope scope own)
    (hg : ∀ s H C cl fp, PG (X.blk s H scope (compEnvC scope cl C X.env) fp) tg g) (ht : ∀ s H C cl fp, PTs (X.blk s H scope (compEnvC scope cl C X.env) fp) ifs tt) (hk : ∀ s H C cl fp, PE (X.blk s H scope (compEnvC scope cl C X.env) fp) kx tk) (he : ∀ s H C cl fp, PE (X.blk s H scope (compEnvC scope cl C X.env) fp) vx tv)
    (hs : ∀ x, foldedSetIterable iter X.env x = pure x) : PE X (.DictComp kx vx [⟨tg, iter, ifs, 0⟩] scope pos) (tDcT wi g tt tk tv (own.map (·.2))) := by
  refine ⟨fun pins s σ H Q I h => ?_⟩
  rw [arm_eval_DictComp]
  refine dc_coreT hu hc hN I hi ok hg ht hk he hs h fun D C s' m H' I' q hn f => ⟨m, hn, fun h'' sb => ?_⟩
  obtain ⟨f0, f1, f2, f3, f4, f5⟩ := f
  exact ⟨.ref D, H', Inv.turned I' (fun b o hb e => (sb.2 b hb).trans e) f0 f1 f3 f4 f5, rfl, q⟩
end FL
set_option Elab.async false
set_option linter.all false
set_option maxRecDepth 100000
set_option maxHeartbeats 2000000
/-! S8: an own dict of tuple keys, locked for good; its keys walked -/
namespace FL
open PySem PySem.Spec PyProof.Rows L2
section
variable {K : PySem.W.Frag} {fx : Fx} {Z Z' H H' : Hp} {ps : List (Option V)} {ρ : Rho} {σ : L2.St} {fp ex : List Addr}
variable {a : Addr} {od : Obj} {kvs : List (List Key × V)}
/-- the own dict in slot i, locked for good: data from now on -/
theorem Wd.lock {i : Nat} {kds : List (List Key × D)} (x : Wd K fx Z H ρ σ ex) (e : ρ[i]? = some (.so false (.dt kds))) : ∃ a kvs, σ[i]? = some (some (.ref a)) ∧ H a = some (.dT kvs) ∧ kvs.map (·.1) = kds.map (·.1) ∧ Reps K Z (kvs.map (·.2)) (kds.map (·.2)) ∧ Z a = none ∧ fx.H0 a = none ∧ a ∉ ex ∧
    ∀ od, Zle Z (upd Z a (.frz od (.dT kvs))) ∧ Wd K fx (upd Z a (.frz od (.dT kvs))) (upd H a (.frz od (.dT kvs))) (ρ.set i (.so false (.va (.ldt kds)))) σ ex := by
  obtain ⟨fp, h⟩ := x
  obtain ⟨v, l, g, r, h1, h2, h3, h4, h5, h6⟩ := h.sl.split e
  cases h2 with
  | @dt a kvs kds ho hk hr =>
  have nd := h.nd
  rw [h3] at nd
  have mg : a ∈ fp ++ ex := by rw [h3]; simp
  have hz := h.zn a mg
  have h0 : fx.H0 a = none := by
    rcases h4 a (by simp) with q | ⟨q, _⟩
    · exact q
    · cases q
  have out : ∀ b, b ∈ l ++ r ∨ b ∈ ex → b ≠ a := fun b hb => by
    simp only [List.nodup_append, List.mem_append] at nd hb
    rintro rfl
    grind
  refine ⟨a, kvs, h1, ho, hk, hr, hz, h0, fun q => out a (.inr q) rfl, fun od => ?_⟩
  have zl : Zle Z (upd Z a (.frz od (.dT kvs))) := fun b o q => by
    rw [upd_ne]
    · exact q
    · rintro rfl; rw [hz] at q; cases q
  have sub : ∀ b, b ∈ l ++ [] ++ r ++ ex → b ∈ fp ++ ex ∧ b ≠ a := fun b hb => by
    have : b ∈ l ++ r ∨ b ∈ ex := by simpa [or_assoc] using hb
    refine ⟨?_, out b this⟩
    rw [h3]
    simp only [List.mem_append] at this ⊢
    grind
  refine ⟨zl, l ++ [] ++ r, ⟨h6 _ _ (.va (.ldt kds)) [] zl (fun b hb => upd_ne (out b (.inl hb))) (.va (.ldt upd_same hk (hr.mono zl))) (fun b hb => by simp at hb), ?_, fun b hb => ?_, fun b hb => ?_, fun b hb vs hv => ?_, h.xn, fun b o q => ?_, fun b o q n => ?_, fun b o q => ?_, fun b n => ?_, tabs_upd h.tb (h.nt a mg)⟩⟩
  · simp only [List.nodup_append, List.mem_append, List.append_nil] at nd ⊢
    grind
  · obtain ⟨s1, s2⟩ := sub b hb
    rw [upd_ne s2]; exact h.zn b s1
  · obtain ⟨s1, s2⟩ := sub b hb
    rw [upd_ne s2]; exact h.th b s1
  · obtain ⟨s1, s2⟩ := sub b hb
    rw [upd_ne s2]; exact h.nt b s1 vs hv
  · by_cases hb : b = a
    · subst hb; rw [upd_same] at q ⊢; exact q
    · rw [upd_ne hb] at q ⊢; exact h.zh b o q
  · rw [upd_ne]
    · exact h.kp b o q n
    · rintro rfl; rw [h0] at q; cases q
  · by_cases hb : b = a
    · subst hb; exact .inr (.inl h0)
    · rw [upd_ne hb] at q; exact h.zf b o q
  · by_cases hb : b = a
    · subst hb; rw [upd_same]; exact fun z => nomatch z
    · rw [upd_ne hb]; exact h.dm b n
end
section
variable {g : Gm} {fx : Fx} {Z Z' H H' : Hp} {ρ ρ1 : Rho} {σ : L2.St} {ex : List Addr} {α β : Type}
variable {e a b c tg : Expr} {fa fb fc : F D} {pos p : Pos} {es : List Expr} {fs : F (List D)} {ga gb : F Bool} {rest : List Expr} {x : Str} {k n : Nat} {st : Stmt} {sts : List Stmt} {f f1 f2 : FS}
theorem for_core {J : It} {ds : List D} {ftg : D → Rho → Option Rho} {js : List Nat} {tgt : TG} {tb : TS} {o : Out} {D' : Ends} {Z1 H1 : Hp}
    (sg : ∀ fx Z H ρ σ ex d v ρ', Wd g.K fx Z H ρ σ ex → Rep g.K Z v d → ftg d ρ = some ρ' → ∀ Q, (∀ σ', Wd g.K fx Z H ρ' σ' ex → σ'.length = σ.length → (∀ i, i ∉ js → σ'[i]? = σ[i]?) → Q σ' H) → tgt v σ H Q) (sb : SemS g tb f)
    (wk : Walk g.K J Z1 ds) (w : Wd g.K fx Z1 H1 ρ1 σ []) (e2 : forL ftg f ds n ρ1 = some o) (ok : OkS g fx Z1 o D') :
    ∃ W : Nat → Nat → L2.St → Hp → Prop, (∃ m, W 0 m σ H1) ∧ ∀ i m σ H, W i m σ H →
      (J.stop i H ∧ D'.nx σ H) ∨ (J.go i H ∧ ∃ N : L2.St → Hp → Prop, (∀ σ' H', N σ' H' → ∃ m', m' < m ∧ W (i + 1) m' σ' H') ∧ ∀ x H', J.yld i H x H' → tgt x σ H' fun σ2 H2 => tb { D' with nx := N, ct := N, bk := D'.nx } σ2 H2) := by
  refine ⟨fun i m σ' H' => m = ds.length - i ∧ i ≤ ds.length ∧ ∃ Z' ρ', forL ftg f (ds.drop i) n ρ' = some o ∧ Zle Z1 Z' ∧ Wd g.K fx Z' H' ρ' σ' [], ⟨ds.length, by simp, Nat.zero_le _, Z1, ρ1, e2, .refl _, w⟩, ?_⟩
  rintro i m σ' H' ⟨rfl, hi, Z', ρ', hl, z1, w'⟩
  by_cases hlt : i < ds.length
  case neg =>
    have ei : i = ds.length := by omega
    rw [ei, List.drop_length] at hl
    cases hl
    exact .inl ⟨wk.stop i Z' H' z1 w'.zh (by omega), ok Z' H' σ' z1 w'⟩
  case pos =>
    have hd : ds[i]? = some ds[i] := List.getElem?_eq_getElem hlt
    refine .inr ⟨wk.go i _ hd Z' H' z1 w'.zh, fun σ'' H'' => ds.length - (i + 1) < ds.length - i ∧ ∃ Z' ρ', forL ftg f (ds.drop (i + 1)) n ρ' = some o ∧ Zle Z1 Z' ∧ Wd g.K fx Z' H'' ρ' σ'' [], fun σ'' H'' ⟨h1, h2⟩ => ⟨_, h1, rfl, hlt, h2⟩, fun v H2 y => ?_⟩
    obtain ⟨Z2, g2, rv⟩ := wk.yld i _ hd Z' H' v H2 z1 w'.zh y
    rw [List.drop_eq_getElem_cons hlt] at hl
    unfold forL at hl
    split at hl
    case h_1 => cases hl
    rename_i ρt ht
    refine sg fx Z2 H2 ρ' σ' [] _ v ρt (w'.gr g2) rv ht _ fun σ2 w3 _ _ => ?_
    have zz := (z1.trans g2.z)
    have ok2 : OkS g fx Z2 o D' := ok.mono zz
    split at hl
    · rename_i ρ2 hb
      exact sb fx Z2 H2 ρt σ2 w3 n _ hb _ fun Z3 H3 σ3 z3 w4 => ⟨by omega, Z3, ρ2, hl, zz.trans z3, w4⟩
    · rename_i ρ2 hb
      exact sb fx Z2 H2 ρt σ2 w3 n _ hb _ fun Z3 H3 σ3 z3 w4 => ⟨by omega, Z3, ρ2, hl, zz.trans z3, w4⟩
    · rename_i ρ2 hb
      cases hl
      exact sb fx Z2 H2 ρt σ2 w3 n _ hb _ fun Z3 H3 σ3 z3 w4 => ok2 Z3 H3 σ3 z3 w4
    · rename_i h1 h2 h3
      cases o with
      | nx ρx => exact (h1 ρx hl).elim
      | bk ρx => exact (h3 ρx hl).elim
      | ct ρx => exact (h2 ρx hl).elim
      | rt w ρx => exact sb fx Z2 H2 ρt σ2 w3 n _ hl _ ok2
      | ex x ρx => exact sb fx Z2 H2 ρt σ2 w3 n _ hl _ ok2
def keysD (kds : List (List Key × D)) : List D := kds.map fun p => .tup (p.1.map kD)
theorem kD_reps {K : PySem.W.Frag} (ks : List Key) : Reps K Z (ks.map kV) (ks.map kD) := by
  induction ks with
  | nil => exact .nil
  | cons k ks ih => exact .cons (Rep.kD k) ih
/-- a key tuple that stands in H may be taken as data -/
theorem Gr.prom {K : PySem.W.Frag} (z : Zle Z H) {q : Addr} {ks : List Key} (h : H q = some (.tup (ks.map kV))) : ∃ Z', Gr Z H Z' H ∧ Rep K Z' (.ref q) (.tup (ks.map kD)) := by
  obtain ⟨Z1, g1, r1⟩ := Gr.proms (K := K) z (kvs := [(ks, .non)]) (bs := [q]) (.cons h .nil)
  cases r1 with
  | cons r _ => exact ⟨Z1, g1, r⟩
theorem walk_keysT {K : PySem.W.Frag} {d : Addr} {od : Obj} {kvs : List (List Key × V)} {kds : List (List Key × D)} (hz : Z d = some (.frz od (.dT kvs))) (hk : kvs.map (·.1) = kds.map (·.1)) : Walk K (Itkt d od kvs) Z (keysD kds) := by
  have hl : kvs.length = kds.length := by simpa using congrArg List.length hk
  have hl2 : (keysD kds).length = kds.length := by simp [keysD]
  refine ⟨fun i Z' H' z zh hi => ⟨zh _ _ (z _ _ hz), by omega⟩, fun i dd hd Z' H' z zh => ⟨zh _ _ (z _ _ hz), ?_⟩, fun i dd hd Z' H' x H'' z zh y => ?_⟩
  · have := (List.getElem?_eq_some_iff.mp hd).1
    omega
  · obtain ⟨e, k, v, q, hkv, rfl, hq⟩ := y
    subst e
    have : dd = .tup (k.map kD) := by
      have h1 : (kvs.map (·.1))[i]? = some k := by rw [List.getElem?_map, hkv]; rfl
      rw [hk, List.getElem?_map] at h1
      unfold keysD at hd
      rw [List.getElem?_map] at hd
      obtain ⟨p, hp, rfl⟩ := Option.map_eq_some_iff.mp h1
      rw [hp] at hd
      exact (Option.some.inj hd).symm
    subst this
    exact Gr.prom zh hq
/-- the thing at d is locked from here on (read, never written) -/
def tLockP (t : TE) : TE := fun σ H Q => ∃ d u, H d = some u ∧ L2.Mut (some u) ∧ ∀ od, t σ (upd H d (.frz od u)) Q
def tOrE (t t' : TE) : TE := fun σ H Q => t σ H Q ∨ t' σ H Q
theorem pe_lockP {X : Cx} {e : Expr} {t : TE} (h : PE X e t) : PE X e (tLockP t) := by
  refine ⟨fun pins s σ H Q I hw => ?_⟩
  obtain ⟨d, u, hd, mu, hw⟩ := hw
  obtain ⟨od, I1⟩ := I.lock hd mu
  exact h.run pins s σ _ _ I1 (hw od)
theorem pe_orE {X : Cx} {e : Expr} {t t' : TE} (h : PE X e t) (h' : PE X e t') : PE X e (tOrE t t') := by
  refine ⟨fun pins s σ H Q I hw => ?_⟩
  rcases hw with hw | hw
  · exact h.run pins s σ _ _ I hw
  · exact h'.run pins s σ _ _ I hw
/-- an own dict is read, and locked -/
def fVarL (i : Nat) : F D := fun ρ => match ρ[i]? with
  | some (.so false (.dt kds)) => some (.ok (.ldt kds) (ρ.set i (.so false (.va (.ldt kds)))))
  | _ => fVarF i ρ
theorem se_varL (i : Nat) {x : Str} {pos : Pos} (hN : g.N[i]? = some x) (hv : Vis g.sc x) (hd : (x == ("__debug__" : Str)) = false := by decide) (hcd : (x == ("__classdict__" : Str)) = false := by decide) : SE g (.Name x pos) (fVarL i) := by
  obtain ⟨t0, p0, s0⟩ := se_varF (g := g) (pos := pos) i hN hv hd hcd
  refine ⟨tOrE (tLockP (tVar i)) t0, fun X is => pe_orE (pe_lockP (pe_var (by rw [is.N]; exact hN) (is.vis hv) hd hcd)) (p0 X is), fun fx Z H ρ σ ex w r e x Q k => ?_⟩
  unfold fVarL at e
  split at e
  · rename_i kds q
    cases e
    obtain ⟨a, kvs, h1, ha, hk, hr, hz, h0, hax, hw⟩ := w.lock q
    refine .inl ⟨a, .dT kvs, ha, trivial, fun od => ?_⟩
    obtain ⟨zl, w1⟩ := hw od
    refine ⟨.ref a, h1, k _ _ rfl _ _ _ ⟨zl, w1, fun b hb => ?_⟩ (.ldt upd_same hk (hr.mono zl))⟩
    rw [upd_ne]
    rintro rfl
    exact hax hb
  · exact .inr (s0 fx Z H ρ σ ex w r e x Q k)
def keysL? : D → Option (List D)
  | .ldt kds => some (keysD kds)
  | _ => none
def fKeys (fa : F D) : F (List D) := fa.bind fun d => F.of (keysL? d)
theorem si_keysL (ha : SE g a fa) : SI g tg a (fKeys fa) := by
  obtain ⟨ta, pa, sa⟩ := ha
  refine ⟨iKeys ta, fun X is => pi_keys (pa X is), fun fx Z H ρ σ ex w r e x Rr k => ?_⟩
  rcases bind_some e with ⟨d, ρ', e1, e2⟩ | ⟨xx, ρ', e1, e2⟩
  · obtain ⟨ds, h1, h2⟩ := of_some e2
    refine sa fx Z H ρ σ ex w _ e1 (fun _ _ z => nomatch z) _ fun d' ρ1 q v Z1 H1 m rp => ?_
    cases q
    cases rp with
    | ldt h hk hr =>
      cases h1
      exact ⟨_, _, rfl, .inr ⟨_, m.zh _ _ h, k _ _ h2 _ Z1 H1 m (walk_keysT h hk)⟩⟩
    | _ => simp [keysL?] at h1
  · subst e2
    exact sa fx Z H ρ σ ex w _ e1 x.thru _ fun d ρ1 z => nomatch z
end
end FL
set_option Elab.async false
set_option linter.all false
set_option maxRecDepth 100000
set_option maxHeartbeats 2000000
/-! S9: d.items() of a locked dict of tuple keys; {k: v for .. in ..} -/
namespace FL
open PySem PySem.Spec PyProof.Rows L2
def itemsD (kds : List (List Key × D)) : List D := kds.map fun p => .tup [.tup (p.1.map kD), p.2]
theorem walk_itemsT {K : PySem.W.Frag} {Z : Hp} {d : Addr} {od : Obj} {kvs : List (List Key × V)} {kds : List (List Key × D)} (hz : Z d = some (.frz od (.dT kvs))) (hk : kvs.map (·.1) = kds.map (·.1)) (hr : Reps K Z (kvs.map (·.2)) (kds.map (·.2))) : Walk K (ItiT d od kvs) Z (itemsD kds) := by
  have hl : kvs.length = kds.length := by simpa using congrArg List.length hk
  have hl2 : (itemsD kds).length = kds.length := by simp [itemsD]
  refine ⟨fun i Z' H' z zh hi => ⟨zh _ _ (z _ _ hz), by omega⟩, fun i dd hd Z' H' z zh => ⟨zh _ _ (z _ _ hz), ?_⟩, fun i dd hd Z' H' x H'' z zh y => ?_⟩
  · have := (List.getElem?_eq_some_iff.mp hd).1
    omega
  · obtain ⟨T, q, k, v, hkv, rfl, hq, hT, rfl⟩ := y
    unfold itemsD at hd
    rw [List.getElem?_map] at hd
    obtain ⟨p, hp, rfl⟩ := Option.map_eq_some_iff.mp hd
    have hpk : p.1 = k := by
      have h1 : (kvs.map (·.1))[i]? = some k := by rw [List.getElem?_map, hkv]; rfl
      rw [hk, List.getElem?_map, hp] at h1
      exact Option.some.inj h1
    have hv : Rep K Z v p.2 := by
      have h1 : (kds.map (·.2))[i]? = some p.2 := by rw [List.getElem?_map, hp]; rfl
      obtain ⟨v', e1, e2⟩ := hr.get h1
      rw [List.getElem?_map, hkv] at e1
      cases e1
      exact e2
    subst hpk
    obtain ⟨Z1, g1, r1⟩ := Gr.prom (K := K) zh hq
    have gd := Gr.data (o := .tup [.ref q, v]) g1.zh hT
    exact ⟨_, g1.trans gd, .tup upd_same (.cons (r1.mono gd.z) (.one (((hv.mono z).mono g1.z).mono gd.z)))⟩
def dcLoop (tg : D → Rho → Option Rho) (gt : F Bool) (fk fv : F D) (vs : List Nat) : List D → List (List Key × D) → Rho → Option (List (List Key × D) × Rho)
  | [], acc, ρ => some (acc, ρ)
  | x :: xs, acc, ρ => match tg x (wipeR ρ vs) with
    | none => none
    | some ρ1 => match gt ρ1 with
      | some (.ok true ρ2) => (match fk ρ2 with
        | some (.ok dk ρ3) => (match fv ρ3 with
          | some (.ok dv ρ4) => (match tkey? dk with
            | some ks => dcLoop tg gt fk fv vs xs (putD acc ks dv) (wipeR ρ4 vs)
            | none => none)
          | _ => none)
        | _ => none)
      | some (.ok false ρ2) => dcLoop tg gt fk fv vs xs acc (wipeR ρ2 vs)
      | _ => none
theorem putD_length {κ : Type} [DecidableEq κ] (kvs : List (κ × D)) (k : κ) (d : D) : (putD kvs k d).length ≤ kvs.length + 1 := by
  unfold putD
  split
  · simp
  · simp
section
variable {g : Gm} {fx : Fx} {Z Z' H H' : Hp} {ρ ρ1 : Rho} {σ : L2.St} {ex : List Addr} {α β : Type}
variable {e a b c tg : Expr} {fa fb fc : F D} {pos p : Pos} {es : List Expr} {fs : F (List D)} {ga gb : F Bool} {rest : List Expr} {x : Str} {k n : Nat}
def itemsL? : D → Option (List D)
  | .ldt kds => some (itemsD kds)
  | _ => none
def fItms (fa : F D) : F (List D) := fa.bind fun d => F.of (itemsL? d)
theorem si_itemsL {elts : List Expr} {kk : Nat} {tpos apos cpos : Pos} (ha : SE g a fa) (hbase : ∀ env, attributeBase a "items" env (eval a env) = eval a env := by intro _; rfl) (hline : (apos.endLine == cpos.line) = true := by rfl) :
    SI g (.Tuple elts kk tpos) (.Call (.Attribute a "items" apos) [] [] cpos) (fItms fa) := by
  obtain ⟨ta, pa, sa⟩ := ha
  refine ⟨iItemsT ta, fun X is => pi_itemsT (pa X is) (hbase _) hline, fun fx Z H ρ σ ex w r e x Rr k => ?_⟩
  rcases bind_some e with ⟨d, ρ', e1, e2⟩ | ⟨xx, ρ', e1, e2⟩
  · obtain ⟨ds, h1, h2⟩ := of_some e2
    show ta σ H fun x H1 => ∃ d o kvs, x = V.ref d ∧ H1 d = some (.frz o (.dT kvs)) ∧ Rr (ItiT d o kvs) H1
    refine sa fx Z H ρ σ ex w _ e1 (fun _ _ z => nomatch z) _ fun d' ρ1 q v Z1 H1 m rp => ?_
    cases q
    cases rp with
    | ldt h hk hr =>
      cases h1
      exact ⟨_, _, _, rfl, m.zh _ _ h, k _ _ h2 _ Z1 H1 m (walk_itemsT h hk hr)⟩
    | _ => simp [itemsL?] at h1
  · subst e2
    exact sa fx Z H ρ σ ex w _ e1 x.thru _ fun d ρ1 z => nomatch z
def fDc (fi : F (List D)) (tg : D → Rho → Option Rho) (gt : F Bool) (fk fv : F D) (vs : List Nat) : F W := fi.bind fun ds ρ =>
  if ds.length < sizeLine then (dcLoop tg gt fk fv vs ds [] ρ).map fun p => .ok (.dt p.1) p.2 else none
theorem sem_dc {wi : TI} {tgt : TG} {tt : TT} {tk tv : TE} {scope : Scope} {vs : List Nat} {fi : F (List D)} {ftg : D → Rho → Option Rho} {gt : F Bool} {fk fv : F D} {js : List Nat} (si : SemI g wi fi)
    (sg : ∀ fx Z H ρ σ ex d v ρ', Wd (g.blk scope).K fx Z H ρ σ ex → Rep (g.blk scope).K Z v d → ftg d ρ = some ρ' → ∀ Q, (∀ σ', Wd (g.blk scope).K fx Z H ρ' σ' ex → σ'.length = σ.length → (∀ i, i ∉ js → σ'[i]? = σ[i]?) → Q σ' H) → tgt v σ H Q)
    (hj : ∀ j ∈ js, j ∈ vs) (st : SemT (g.blk scope) tt gt) (sk : SemE (g.blk scope) tk fk) (se : SemE (g.blk scope) tv fv) : SemW g (tDcT wi tgt tt tk tv vs) (fDc fi ftg gt fk fv vs) := fun fx Z H ρ σ ex w r e x Q k => by
  show wi σ H fun J H1 => ∀ D : Addr, H1 D = none → ∃ W : Nat → Nat → Hp → Prop, (∃ m, W 0 m (upd H1 D (.dT []))) ∧ ∀ i m H, W i m H →
    (J.stop i H ∧ Q (.ref D) H) ∨ (J.go i H ∧ ∃ Nx : Hp → Prop, (∀ H', Nx H' → ∃ m', m' < m ∧ W (i + 1) m' H') ∧ ∀ x H', J.yld i H x H' → tgt x (L2.wipe σ vs) H' fun σ2 H2 => L2.wipe σ2 vs = L2.wipe σ vs ∧ tt σ2 H2 fun b H3 =>
      if b = true then tk σ2 H3 fun y H4 => tv σ2 H4 fun z H5 => ∃ (kvs : List (List Key × V)) (ks : List Key) (b : Addr), y = .ref b ∧ H5 b = some (.tup (ks.map kV)) ∧ H5 D = some (.dT kvs) ∧ kvs.length < sizeLine ∧ Nx (upd H5 D (.dT (putK kvs ks z))) else Nx H3)
  rcases bind_some e with ⟨ds, ρ1, e1, e2⟩ | ⟨xx, ρ', e1, e2⟩
  case inr =>
    subst e2
    exact si fx Z H ρ σ ex w _ e1 x.thru _ fun d ρ1 z => nomatch z
  refine si fx Z H ρ σ ex w _ e1 (fun _ _ z => nomatch z) _ fun ds' ρ1' z J Z1 H1 m1 wk D hD => ?_
  cases z
  split at e2
  case isFalse => cases e2
  rename_i hsz
  cases hl : dcLoop ftg gt fk fv vs ds [] ρ1 with
  | none => rw [hl] at e2; cases e2
  | some out =>
  rw [hl] at e2
  obtain ⟨out, ρo⟩ := out
  cases e2
  obtain ⟨w1, f1⟩ := m1.new (o := .dT []) hD
  refine ⟨fun i m H' => m = ds.length - i ∧ i ≤ ds.length ∧ ∃ Z' ρ' acc vacc, dcLoop ftg gt fk fv vs (ds.drop i) acc ρ' = some (out, ρo) ∧ Zle Z1 Z' ∧ Wd g.K fx Z' H' ρ' σ ([D] ++ ex) ∧ (∀ a ∈ ex, H' a = H a) ∧ H' D = some (.dT vacc) ∧ vacc.map (·.1) = acc.map (·.1) ∧ Reps g.K Z' (vacc.map (·.2)) (acc.map (·.2)) ∧ acc.length ≤ i,
    ⟨ds.length, by simp, Nat.zero_le _, Z1, ρ1, [], [], hl, .refl _, w1, f1, upd_same, rfl, .nil, Nat.le_refl _⟩, ?_⟩
  rintro i m H' ⟨rfl, hi, Z', ρ', acc, vacc, hlp, z1, w', f', hD', hka, ra, la⟩
  by_cases hlt : i < ds.length
  case neg =>
    have ei : i = ds.length := by omega
    rw [ei, List.drop_length] at hlp
    cases hlp
    refine .inl ⟨wk.stop i Z' H' z1 w'.zh (by omega), ?_⟩
    exact k (.dt out) ρo rfl (.ref D) Z' H' [D] (m1.z.trans z1) w' f' (.dt hD' hka ra)
  case pos =>
    have hd : ds[i]? = some ds[i] := List.getElem?_eq_getElem hlt
    refine .inr ⟨wk.go i _ hd Z' H' z1 w'.zh, fun H'' => ds.length - (i + 1) < ds.length - i ∧ ∃ Z' ρ' acc vacc, dcLoop ftg gt fk fv vs (ds.drop (i + 1)) acc ρ' = some (out, ρo) ∧ Zle Z1 Z' ∧ Wd g.K fx Z' H'' ρ' σ ([D] ++ ex) ∧ (∀ a ∈ ex, H'' a = H a) ∧ H'' D = some (.dT vacc) ∧ vacc.map (·.1) = acc.map (·.1) ∧ Reps g.K Z' (vacc.map (·.2)) (acc.map (·.2)) ∧ acc.length ≤ i + 1,
      fun H'' ⟨h1, h2⟩ => ⟨_, h1, rfl, hlt, h2⟩, fun v H2 y => ?_⟩
    obtain ⟨Z2, g2, rv⟩ := wk.yld i _ hd Z' H' v H2 z1 w'.zh y
    rw [List.drop_eq_getElem_cons hlt] at hlp
    unfold dcLoop at hlp
    have w2 := w'.gr g2
    have w2' : Wd g.K fx Z2 H2 (wipeR ρ' vs) (L2.wipe σ vs) ([D] ++ ex) := Wd.wipe w2 (wipe_length _ _) fun i hi => wipe_out hi
    have keepD : ∀ a ∈ [D] ++ ex, H2 a = H' a := fun a ha => by
      obtain ⟨fp, h⟩ := w'
      have n := h.th a (List.mem_append_right _ ha)
      cases q : H' a with
      | none => exact absurd q n
      | some o => exact g2.h a o q
    split at hlp
    case h_1 => cases hlp
    rename_i ρt ht
    refine sg fx Z2 H2 (wipeR ρ' vs) (L2.wipe σ vs) _ _ v ρt w2' rv ht _ fun σ2 w3 l3 f3 => ?_
    have hw : L2.wipe σ2 vs = L2.wipe σ vs := by
      rw [wipe_ext (σ := L2.wipe σ vs) (σ' := σ2) (vs := vs) l3 fun i hi => f3 i fun hh => hi (hj i hh)]
      exact wipe_ext (wipe_length _ _) fun i hi => wipe_out hi
    have back : ∀ i, i ∉ vs → σ[i]? = σ2[i]? := fun i hi => by
      rw [← wipe_out' (σ := σ) hi, ← hw, wipe_out' hi]
    have lback : σ.length = σ2.length := by rw [l3, wipe_length]
    refine ⟨hw, ?_⟩
    split at hlp
    · rename_i ρ2 hgt
      refine st fx Z2 H2 ρt σ2 _ w3 _ hgt (fun _ _ z => nomatch z) _ fun bb ρb zb Z3 H3 m3 => ?_
      cases zb
      rw [if_pos rfl]
      split at hlp
      case h_2 => cases hlp
      rename_i dk ρ3 hfk
      refine sk fx Z3 H3 ρ2 σ2 _ m3.wd _ hfk (fun _ _ z => nomatch z) _ fun dd ρd zd u Z4 H4 m4 ru => ?_
      cases zd
      split at hlp
      case h_2 => cases hlp
      rename_i dv ρ4 hfv
      refine se fx Z4 H4 ρ3 σ2 _ m4.wd _ hfv (fun _ _ z => nomatch z) _ fun dd ρd zd u2 Z5 H5 m5 ru2 => ?_
      cases zd
      split at hlp
      case h_2 => cases hlp
      rename_i ks hks
      have hD5 : H5 D = some (.dT vacc) := by rw [m5.fr D (by simp), m4.fr D (by simp), m3.fr D (by simp), keepD D (by simp)]; exact hD'
      obtain ⟨bb, rfl, hbb⟩ := (ru.mono m5.z).tkey m5.zh hks
      have lv : vacc.length = acc.length := by simpa using congrArg List.length hka
      obtain ⟨p1, p2⟩ := put_reps (k := ks) hka (ra.mono (((g2.z.trans m3.z).trans m4.z).trans m5.z)) ru2
      refine ⟨vacc, ks, bb, rfl, hbb, hD5, by omega, by omega, Z5, wipeR ρ4 vs, _, _, hlp, (((z1.trans g2.z).trans m3.z).trans m4.z).trans m5.z, ?_, ?_, upd_same, p1, p2, ?_⟩
      · exact Wd.wipe (Wd.updEx (a := D) (ex := ex) m5.wd).1 lback back
      · intro a ha
        rw [(Wd.updEx (a := D) (ex := ex) (o := .dT (putK vacc ks u2)) m5.wd).2 a ha, m5.fr a (by simp [ha]), m4.fr a (by simp [ha]), m3.fr a (by simp [ha]), keepD a (by simp [ha])]
        exact f' a ha
      · have := putD_length acc ks dv
        omega
    · rename_i ρ2 hgt
      refine st fx Z2 H2 ρt σ2 _ w3 _ hgt (fun _ _ z => nomatch z) _ fun bb ρb zb Z3 H3 m3 => ?_
      cases zb
      rw [if_neg Bool.false_ne_true]
      refine ⟨by omega, Z3, wipeR ρ2 vs, acc, vacc, hlp, (z1.trans g2.z).trans m3.z, Wd.wipe m3.wd lback back, ?_, by rw [m3.fr D (by simp), keepD D (by simp)]; exact hD', hka, ra.mono (g2.z.trans m3.z), by omega⟩
      intro a ha
      rw [m3.fr a (by simp [ha]), keepD a (by simp [ha])]
      exact f' a ha
    · cases hlp
theorem sw_dc {iter kx vx : Expr} {ifs : List Expr} {scope : Scope} {own : List (Str × Nat)} {fi : F (List D)} {ftg : D → Rho → Option Rho} {gt : F Bool} {fk fv : F D} {js : List Nat} (hi : SI g tg iter fi) (ok : BlkOk g.N g.sc scope own)
    (hg : SG (g.blk scope) tg ftg js) (hj : ∀ j ∈ js, j ∈ own.map (·.2)) (ht : STs (g.blk scope) ifs gt) (hk : SE (g.blk scope) kx fk) (he : SE (g.blk scope) vx fv) (hs : ∀ env x, foldedSetIterable iter env x = pure x := by intro _ _; rfl) :
    SW g (.DictComp kx vx [⟨tg, iter, ifs, 0⟩] scope pos) (fDc fi ftg gt fk fv (own.map (·.2))) := by
  obtain ⟨wi, pi, si⟩ := hi
  obtain ⟨tgt, pg, sg⟩ := hg
  obtain ⟨tt, pt, st⟩ := ht
  obtain ⟨tk, pk, sk⟩ := hk
  obtain ⟨te, pe, se⟩ := he
  exact ⟨_, fun X is => pe_dcT (Nat.lt_of_succ_lt is.hu) is.calm (by rw [is.N]; exact is.nd) (pi X is) (by rw [is.N, is.sc]; exact ok) (fun s H C cl fp => pg _ (is.blk scope s H cl C fp)) (fun s H C cl fp => pt _ (is.blk scope s H cl C fp)) (fun s H C cl fp => pk _ (is.blk scope s H cl C fp)) (fun s H C cl fp => pe _ (is.blk scope s H cl C fp)) (hs _), sem_dc si sg hj st sk se⟩
end
end FL
set_option Elab.async false
set_option linter.all false
set_option maxRecDepth 100000
set_option maxHeartbeats 2000000
/-! S10: list(d.values()), d of tuple keys -/
namespace FL
open PySem PySem.Spec PyProof.Rows L2
def tListVals (te : TE) : TE := fun σ H Q => te σ H fun x H1 => ∃ (d : Addr) (kvs : List (List Key × V)), x = .ref d ∧ Rd H1 d (.dT kvs) ∧ ∀ p, H1 p = none → Q (.ref p) (upd H1 p (.lst (kvs.map (·.2))))
theorem pe_listVals {X : Cx} {e : Expr} {te : TE} {p apos cpos pos : Pos} (hc : X.calm = true) (he : PE X e te) (hg : Gl X "list") (hm : X.mg "list" = none) (hbase : attributeBase e "values" X.env (eval e X.env) = eval e X.env) (hline : (apos.endLine == cpos.line) = true)
    (hs : starEach [.Call (.Attribute e "values" apos) [] [] cpos] X.env = (false, eval (.Call (.Attribute e "values" apos) [] [] cpos) X.env) :: starEach [] X.env) :
    PE X (.Call (.Name "list" p) [.Call (.Attribute e "values" apos) [] [] cpos] [] pos) (tListVals te) := by
  refine ⟨fun pins s σ H Q I hq => wpAny_Call_Name_kw (ld_blt I hg hm rfl (PyProof.Rows.callWith_type1 ?_) (by decide) (by decide))⟩
  rw [hs]
  refine Calls.spliced_cons (wpAny_Call_method hbase rfl hline F.plainAttrs_dict F.slot_dict_values F.type_dict_values (thn (he.run pins s σ H _ I hq) ?_))
  rintro u s1 ⟨x, H1, I1, rx, d, kvs, rfl, hd, q⟩
  cases rx
  obtain ⟨z, hs0, ks, pr, o, es, ep, ho, hx, hdt, hes, hnd⟩ : ObjOk X.prog X.w H1 s1.heap d (.dT kvs) := Rd.ok hd I1.hok
  have raw : s1.heap.DictRaw d es ep := ⟨o, ho, hx, hdt⟩
  have I2 := Inv.kept (t' := s1.toks) I1 fun b ob q => Heap.get?_push_of_some { cls := Value.type "dict_values", data := Data.fields #[Value.ref d] } q
  refine ⟨⟨o, ho, hx.1⟩, fun a ha => ?_, ?_⟩
  · cases ha
    exact ⟨o, ho, hx.2.1⟩
  · refine method_meetsIn F.slot_dict_values F.entry_dict_values rfl (PySem.evalArgs_none ⟨rfl, ⟨o, ho, hx.1⟩, F.args_dict_values_1 (.ref d), _, meets_dict_values_raw d hs0, ⟨es, ep, raw⟩, ?_⟩)
    refine Calls.spliced_nil (W.kdl_call (KdlSrc.rawValues (d := d) (es := es) (ep := ep)) (I1.ok.hd hc) ⟨⟨_, Heap.get?_push_size s1.1 rfl, rfl, rfl⟩, ⟨o, Heap.get?_push_of_some _ ho, hx, hdt⟩⟩ ?_ fun h' tk acc c kp hl it => ?_)
    · have l1 := size_of_entries hes
      have l2 := Paired.length pr
      omega
    · have l1 := size_of_entries hes
      have l2 := Paired.length pr
      obtain ⟨hsz, hit⟩ := it
      have ea : acc.toList = ks.map fun k => k.2.2 := by
        apply List.ext_getElem?
        intro j
        rw [List.getElem?_map]
        by_cases hj : j < acc.size
        · have hj' : j < es.size := by omega
          obtain ⟨hi, hv⟩ := hit j acc[j] (Array.getElem?_eq_getElem hj)
          have he := entry_at hes j
          rw [Array.getElem?_eq_getElem hj'] at he
          obtain ⟨k, hk, hk2⟩ := Option.map_eq_some_iff.mp he.symm
          rw [hk, List.getElem?_eq_getElem (by simpa using hj)]
          simp only [Option.map_some, Array.getElem_toList]
          rw [hv, ← hk2]
          rfl
        · rw [List.getElem?_eq_none (by simpa using hj), List.getElem?_eq_none (by omega)]
          rfl
      have rv : Vals (kvs.map (·.2)) (ks.map fun k => k.2.2) := by
        clear hit ea l1 l2 hes hnd q hd hsz z
        induction pr with
        | nil => exact .nil
        | cons h _ ih => exact .cons h.2.2 ih
      refine ⟨V.ref _, upd H1 _ (.lst (kvs.map (·.2))), Inv.laid I2 kp (Nat.le_refl _) ⟨by simpa using z, ks.map (fun k => k.2.2), c, rv, ?_⟩, rfl, q _ (HOk.fresh I2.hok (Nat.le_refl _))⟩
      rw [← ea]
      exact hl
section
variable {g : Gm} {fx : Fx} {Z Z' H H' : Hp} {ρ ρ1 : Rho} {σ : L2.St} {ex : List Addr}
variable {e : Expr} {fa : F D} {pos p apos cpos : Pos}
def fListV (fa : F D) : F W := fa.bind fun d => F.of (match d with
  | .dt kds => some (.ls (kds.map (·.2)))
  | .ldt kds => some (.ls (kds.map (·.2)))
  | _ => none)
theorem w_listVals (hm : g.mg "list" = none) (ha : SE g e fa) (hg : g.sc.names.lookup ("list" : Str) = some .globalImplicit := by rfl) (hbase : ∀ env, attributeBase e "values" env (eval e env) = eval e env := by intro _; rfl) (hline : (apos.endLine == cpos.line) = true := by rfl)
    (hs : ∀ env, starEach [.Call (.Attribute e "values" apos) [] [] cpos] env = (false, eval (.Call (.Attribute e "values" apos) [] [] cpos) env) :: starEach [] env := by intro _; rfl) :
    SW g (.Call (.Name "list" p) [.Call (.Attribute e "values" apos) [] [] cpos] [] pos) (fListV fa) := by
  obtain ⟨ta, pa, sa⟩ := ha
  refine ⟨tListVals ta, fun X is => pe_listVals is.calm (pa X is) (is.gl hg) (by rw [is.mg]; exact hm) (hbase _) hline (hs _), fun fx Z H ρ σ ex w rr e x Q k => ?_⟩
  show ta σ H fun x H1 => ∃ (d : Addr) (kvs : List (List Key × V)), x = .ref d ∧ Rd H1 d (.dT kvs) ∧ ∀ p, H1 p = none → Q (.ref p) (upd H1 p (.lst (kvs.map (·.2))))
  refine se_run sa w e x fun d ρ1 v Z1 H1 e1 m1 r1 x1 => ?_
  obtain ⟨w', h1, h2⟩ := of_some e1
  cases r1 with
  | dt h hk hr =>
    cases h1
    exact ⟨_, _, rfl, .inl (m1.zh _ _ h), fun p hp => k.list h2 m1 p _ hp hr⟩
  | ldt h hk hr =>
    cases h1
    exact ⟨_, _, rfl, .inr ⟨_, m1.zh _ _ h⟩, fun p hp => k.list h2 m1 p _ hp hr⟩
  | _ => simp at h1
end
end FL
set_option Elab.async false
set_option linter.all false
set_option maxRecDepth 100000
set_option maxHeartbeats 1000000
/-! S11: two lists of unlike lengths -/
namespace FL
open PySem PySem.Spec PyProof.Rows L2
def rNeLen (K : PySem.W.Frag) : R2 := fun x y H Q => ∃ a b xs ys, x = V.ref a ∧ y = V.ref b ∧ SqL K H a xs ∧ SqL K H b ys ∧ xs.length ≠ ys.length ∧ Q (.bl true) H
theorem op_neLen {X : Cx} (hu : X.A.units + 64 < cLine) : OpR X (compareOp .NotEq) (rNeLen X.K) := by
  rintro pins s σ H x y v u Q I rx ry ⟨a, b, xs, ys, rfl, rfl, h1, h2, hne, q⟩
  cases rx
  cases ry
  obtain ⟨i1, r1, p1, z1⟩ := Inv.list I h1
  obtain ⟨i2, r2, p2, z2⟩ := Inv.list I h2
  refine SeqAt.RcNeAt.lists_lengths (PlainL.isList p1) (PlainL.isList p2) ?_ (by omega) X.prog X.w X.xe (EP X pins σ Q) ⟨.bl true, H, I, rfl, q⟩
  have e1 := Vals.length r1
  have e2 := Vals.length r2
  simp [← e1, ← e2]
  exact hne
def oNeLen (x y : D) : Option D := match sqL? x, sqL? y with
  | some xs, some ys => if xs.length ≠ ys.length then some (.bl true) else none
  | _, _ => none
theorem opd_neLen {K : PySem.W.Frag} : OpD K (rNeLen K) oNeLen := by
  intro Z H x y dx dy d z rx ry e Q k
  unfold oNeLen at e
  split at e
  · rename_i xs ys e1 e2
    split at e
    · rename_i hne
      cases e
      obtain ⟨a, vs, rfl, h1, r1⟩ := rx.sqL z e1
      obtain ⟨b, us, rfl, h2, r2⟩ := ry.sqL z e2
      exact ⟨a, b, vs, us, rfl, rfl, h1, h2, by rw [r1.length, r2.length]; exact hne, k.now z (.bl _)⟩
    · cases e
  · cases e
theorem co_neL {g : Gm} : Co g .NotEq (fun x y H Q => rNeLen g.K x y H Q ∨ rNeD g.K x y H Q) (fun x y => (oNeLen x y).or (oNe x y)) := ⟨fun X is => by rw [← is.K]; exact (op_neLen is.hu64).or (op_neD is.hu64), opd_neLen.or opd_ne⟩
end FL
set_option Elab.async false
set_option linter.all false
set_option maxRecDepth 100000
set_option maxHeartbeats 1000000
/-! S12: several own things at once; zip; in a list of nested data; d.get(k); f() -/
namespace FL
open PySem PySem.Spec PyProof.Rows L2
theorem RepWs.keepEx {K : PySem.W.Frag} {Z Z' H H' : Hp} {vs : List V} {ws : List W} {fp : List Addr} (r : RepWs K Z H vs ws fp) (e : Zle Z Z') (k : ∀ a ∈ fp, H' a = H a) : RepWs K Z' H' vs ws fp := r.keep e k
def SAW (g : Gm) (es : List Expr) (f : F (List W)) : Prop := ∃ t : TA, (∀ X, Is g X → PA X es t) ∧
  ∀ fx Z H ρ σ ex, Wd g.K fx Z H ρ σ ex → ∀ r, f ρ = some r → XC g fx Z H σ ex r → ∀ Q : List V → Hp → Prop, (∀ ws ρ', r = .ok ws ρ' → ∀ vs Z' H' fp, Zle Z Z' → Wd g.K fx Z' H' ρ' σ (fp ++ ex) → (∀ a ∈ ex, H' a = H a) → RepWs g.K Z' H' vs ws fp → Q vs H') → t σ H Q
def putWs : List Nat → List W → Rho → Option Rho
  | [], [], ρ => some ρ
  | j :: js, w :: ws, ρ => if j < ρ.length then putWs js ws (ρ.set j (.so false w)) else none
  | _, _, _ => none
def setAll (σ : L2.St) : List Nat → List V → L2.St
  | j :: js, v :: vs => setAll (σ.set j (some v)) js vs
  | _, _ => σ
def gNames : List Nat → TGs
  | [] => gNil
  | j :: js => gCons (gName j) (gNames js)
section
variable {g : Gm} {fx : Fx} {Z Z' H H' : Hp} {ρ ρ1 : Rho} {σ : L2.St} {ex : List Addr} {α β : Type}
variable {e a b c tg : Expr} {fa fb fc : F D} {pos p : Pos} {es : List Expr} {fs : F (List D)} {ga gb : F Bool} {rest : List Expr} {x : Str} {k n : Nat} {st : Stmt} {sts : List Stmt} {f f1 f2 : FS}
theorem Wd.puts : ∀ (js : List Nat) {vs : List V} {ws : List W} {fp : List Addr} {ρ ρ' : Rho} {σ : L2.St}, Wd g.K fx Z H ρ σ (fp ++ ex) → RepWs g.K Z H vs ws fp → putWs js ws ρ = some ρ' → Wd g.K fx Z H ρ' (setAll σ js vs) ex := by
  intro js
  induction js with
  | nil =>
    intro vs ws fp ρ ρ' σ w r e
    cases r with
    | nil => cases e; exact w
    | cons h r => cases e
  | cons j js ih =>
    intro vs ws fp ρ ρ' σ w r e
    cases r with
    | nil => cases e
    | cons h r =>
      unfold putWs at e
      split at e
      · rename_i hj
        rw [List.append_assoc] at w
        exact ih (w.put h hj) r e
      · cases e
def wNil : F (List W) := fun ρ => some (.ok [] ρ)
def wCons (f : F W) (r : F (List W)) : F (List W) := f.bind fun d => r.bind fun ds => F.ret (d :: ds)
theorem saw_nil : SAW g [] wNil := ⟨tNil, fun _ _ => pa_nil, fun fx Z H ρ σ ex w r e x Q k => by cases e; exact k [] ρ rfl [] Z H [] (.refl _) w (fun _ _ => rfl) .nil⟩
theorem saw_cons {fw : F W} {fr : F (List W)} (ha : SW g e fw) (hs : SAW g es fr) (hst : ∀ env, starEach (e :: es) env = (false, eval e env) :: starEach es env := by intro _; rfl) : SAW g (e :: es) (wCons fw fr) := by
  obtain ⟨ta, pa, sa⟩ := ha
  obtain ⟨tb, pb, sb⟩ := hs
  refine ⟨tCons ta tb, fun X is => pa_cons (pa X is) (pb X is) (hst _), fun fx Z H ρ σ ex w r e x Q k => ?_⟩
  show ta σ H fun x H1 => tb σ H1 fun xs H2 => Q (x :: xs) H2
  refine sw_run sa w e x fun w1 ρ1 v1 Z1 H1 fp1 e1 z1 wd1 fr1 r1 x1 => ?_
  have x2 : XC g fx Z1 H1 σ (fp1 ++ ex) r := fun e' ρ' q c d Z2 H2 m er => x1 e' ρ' q c d Z2 H2 ⟨m.z, m.wd.drop, fun a ha => m.fr a (List.mem_append_right _ ha)⟩ er
  rcases bind_some e1 with ⟨ws, ρ2, e2, e3⟩ | ⟨xx, ρ2, e2, rfl⟩
  · refine sb fx Z1 H1 ρ1 σ (fp1 ++ ex) wd1 _ e2 (fun _ _ z => nomatch z) _ fun ws' ρ2' z vs Z2 H2 fp2 z2 wd2 fr2 r2 => ?_
    cases z
    cases e3
    refine k _ _ rfl _ Z2 H2 (fp1 ++ fp2) (z1.trans z2) (wd2.perm ?_) (fun a ha => (fr2 a (List.mem_append_right _ ha)).trans (fr1 a ha)) (.cons (r1.keep z2 fun a ha => fr2 a (List.mem_append_left _ ha)) r2)
    rw [← List.append_assoc]
    exact List.Perm.append_right _ List.perm_append_comm
  · exact sb fx Z1 H1 ρ1 σ (fp1 ++ ex) wd1 _ e2 x2.thru _ fun ws' ρ2' z => nomatch z
def fParN (js : List Nat) (fs : F (List W)) : FS := FS.of fs fun ws _ ρ => (putWs js ws ρ).map .nx
theorem sem_parN {js : List Nat} {t : TA} {fw : F (List W)} {D' : Ends} {o : Out}
    (s : ∀ fx Z H ρ σ ex, Wd g.K fx Z H ρ σ ex → ∀ r, fw ρ = some r → XC g fx Z H σ ex r → ∀ Q : List V → Hp → Prop, (∀ ws ρ', r = .ok ws ρ' → ∀ vs Z' H' fp, Zle Z Z' → Wd g.K fx Z' H' ρ' σ (fp ++ ex) → (∀ a ∈ ex, H' a = H a) → RepWs g.K Z' H' vs ws fp → Q vs H') → t σ H Q)
    (w : Wd g.K fx Z H ρ σ []) (e : fParN js fw n ρ = some o) (ok : OkS g fx Z o D') {Q : List V → Hp → Prop}
    (k : ∀ ws ρ1 ρ2 vs Z1 H1 fp, putWs js ws ρ1 = some ρ2 → o = .nx ρ2 → Zle Z Z1 → Wd g.K fx Z1 H1 ρ1 σ (fp ++ []) → RepWs g.K Z1 H1 vs ws fp → Q vs H1) : t σ H Q := by
  unfold fParN at e
  rcases of_cases e with ⟨ws, ρ', e1, e2⟩ | ⟨xx, ρ', e1, rfl⟩
  · refine s fx Z H ρ σ [] w _ e1 (fun _ _ z => nomatch z) Q fun ws' ρ1 z vs Z1 H1 fp z1 w1 _ r1 => ?_
    cases z
    obtain ⟨ρ2, h1, h2⟩ := Option.map_eq_some_iff.mp e2
    exact k ws ρ' ρ2 vs Z1 H1 fp h1 h2.symm z1 w1 r1
  · exact s fx Z H ρ σ [] w _ e1 (ok.xc fun x2 ρ2 q => by cases q; rfl) Q fun d ρ1 z => nomatch z
theorem reps_len {K : PySem.W.Frag} : ∀ {vs : List V} {ws : List W} {fp : List Addr}, RepWs K Z H vs ws fp → vs.length = ws.length
  | _, _, _, .nil => rfl
  | _, _, _, .cons _ r => congrArg (· + 1) (reps_len r)
theorem puts_len : ∀ {js : List Nat} {ws : List W} {ρ ρ' : Rho}, putWs js ws ρ = some ρ' → js.length = ws.length
  | [], [], _, _, _ => rfl
  | [], _ :: _, _, _, h => by cases h
  | _ :: _, [], _, _, h => by cases h
  | j :: js, w :: ws, ρ, ρ', h => by
    unfold putWs at h
    split at h
    · exact congrArg (· + 1) (puts_len h)
    · cases h
theorem ss_par3 {i j l : Nat} {x y z : Str} {px py pz pt pt2 : Pos} {kt k2 : Nat} {fw : F (List W)} (hNi : g.N[i]? = some x) (hNj : g.N[j]? = some y) (hNl : g.N[l]? = some z) (hij : i ≠ j) (hil : i ≠ l) (hjl : j ≠ l) (hx : g.sc.names.lookup x = some .local) (hy : g.sc.names.lookup y = some .local) (hz : g.sc.names.lookup z = some .local) (ha : SAW g [a, b, c] fw)
    (hs : ∀ env : Env, env.scope = g.sc → swappedStores [.Tuple [.Name x px, .Name y py, .Name z pz] kt pt] (.Tuple [a, b, c] k2 pt2) env = pure (some [x, y, z]))
    (hs1 : ∀ env, swapsWithSole [.Tuple [.Name x px, .Name y py, .Name z pz] kt pt] (.Tuple [a, b, c] k2 pt2) pos.line env = pure false := by intro _; rfl) :
    SS g (.Assign [.Tuple [.Name x px, .Name y py, .Name z pz] kt pt] (.Tuple [a, b, c] k2 pt2) pos) (fParN [i, j, l] fw) := by
  obtain ⟨ta, pa, sa⟩ := ha
  refine ⟨tPar3 i j l ta, fun X is => ps_par3 is.calm (by rw [is.N]; exact is.nd) (by rw [is.N]; exact hNi) (by rw [is.N]; exact hNj) (by rw [is.N]; exact hNl) hij hil hjl (by rw [is.sc]; exact hx) (by rw [is.sc]; exact hy) (by rw [is.sc]; exact hz) (pa X is) (hs _ is.sc) (hs1 _), fun fx Z H ρ σ w n o e' D ok => ?_⟩
  show ta σ H fun vs H1 => ∃ u v w, vs = [u, v, w] ∧ D.nx (((List.set σ i (some u)).set j (some v)).set l (some w)) H1
  refine sem_parN sa w e' ok fun ws ρ1 ρ2 vs Z1 H1 fp hp ho z1 w1 r1 => ?_
  subst ho
  have hl := (reps_len r1).trans (puts_len hp).symm
  match vs, hl with
  | [u, v, w'], _ => exact ⟨u, v, w', rfl, ok Z1 H1 _ z1 (Wd.puts _ w1 r1 hp)⟩
/-- the targets are names -/
def NG (g : Gm) (tgs : List Expr) (js : List Nat) : Prop := ∀ X, Is g X → PGs X tgs (gNames js)
theorem ng_nil : NG g [] [] := fun _ _ => pgs_nil
theorem ng_cons {i : Nat} {js : List Nat} {y : Str} {py : Pos} (hN : g.N[i]? = some y) (hx : Loc g.sc y) (hl : ∀ X, Is g X → X.fn y = true ∨ X.env.scope.names.lookup y = some .local) (h : NG g es js) (hst : ∀ env, (assignEach (.Name y py :: es) env).map (·.2) = assign (.Name y py) env :: (assignEach es env).map (·.2) := by intro _; rfl) : NG g (.Name y py :: es) (i :: js) := fun X is =>
  pgs_cons (pg_name (by rw [is.N]; exact is.nd) (by rw [is.N]; exact hN) (by rw [is.sc]; exact hx) (hl X is)) (h X is) (hst _)
theorem gNames_run : ∀ {js : List Nat} {vs : List V} {σ : L2.St} {Q : L2.St → Hp → Prop}, vs.length = js.length → Q (setAll σ js vs) H → gNames js vs σ H Q
  | [], [], _, _, _, h => ⟨rfl, h⟩
  | [], _ :: _, _, _, l, _ => by cases l
  | _ :: _, [], _, _, l, _ => by cases l
  | j :: js, v :: vs, σ, Q, l, h => ⟨v, vs, rfl, gNames_run (by simpa using l) h⟩
/-- a, b = e1, e2 by a tuple (a captured name among them) -/
theorem ss_parT {js : List Nat} {tgs : List Expr} {pt pt2 : Pos} {kt k2 m : Nat} {fw : F (List W)} (hng : NG g tgs js) (ha : SAW g es fw) (hm : js.length = m)
    (hs : ∀ env : Env, env.scope = g.sc → swappedStores [.Tuple tgs kt pt] (.Tuple es k2 pt2) env = pure none)
    (hs1 : ∀ env, swapsWithSole [.Tuple tgs kt pt] (.Tuple es k2 pt2) pos.line env = pure false := by intro _; rfl)
    (hn : ∀ env, (assignEach tgs env).length = m := by intro _; rfl) (hst : ∀ env, (assignEach tgs env).findIdx? (·.1) = none := by intro _; rfl)
    (h3 : ∀ env, List.map (·.2) (assignEach [.Tuple tgs kt pt] env) = [assign (.Tuple tgs kt pt) env] := by intro _; rfl) (hz : m ≤ 1000 := by decide) :
    SS g (.Assign [.Tuple tgs kt pt] (.Tuple es k2 pt2) pos) (fParN js fw) := by
  obtain ⟨ta, pa, sa⟩ := ha
  refine ⟨tAsg (tTup ta) (gTup g.K m (gNames js)), fun X is => ps_asg (pe_tup (pa X is)) (by rw [← is.K]; exact pg_tup is.calm (hng X is) (hn _) (hst _)) (hs1 _) (hs _ is.sc) (h3 _), fun fx Z H ρ σ w n o e' D ok => ?_⟩
  show ta σ H fun xs H1 => xs.length ≤ sizeLine ∧ ∀ p, H1 p = none → gTup g.K m (gNames js) (.ref p) σ (upd H1 p (.tup xs)) D.nx
  refine sem_parN sa w e' ok fun ws ρ1 ρ2 vs Z1 H1 fp hp ho z1 w1 r1 => ?_
  subst ho
  have hl := (reps_len r1).trans (puts_len hp).symm
  refine ⟨by rw [hl, hm]; exact Nat.le_trans hz (by decide), fun p hpn => ⟨p, vs, rfl, .of upd_same, by rw [hl, hm], gNames_run hl ?_⟩⟩
  have gj := Gr.junk (o := .tup vs) w1.zh hpn
  have w2 := w1.gr gj
  have keep : ∀ a ∈ fp, upd H1 p (.tup vs) a = H1 a := fun a ha => by
    obtain ⟨f, h⟩ := w1
    have n := h.th a (by simp [ha])
    rw [upd_ne]
    rintro rfl
    exact n hpn
  exact ok Z1 _ _ z1 (Wd.puts _ w2 (r1.keep (.refl _) keep) hp)

/-! ### zip of two lists -/
def zipD (xs ys : List D) : List D := List.zipWith (fun x y => .tup [x, y]) xs ys
theorem walk_zip {K : PySem.W.Frag} {a b : Addr} {vs us : List V} {xs ys : List D} (h1 : SqL K Z a vs) (r1 : Reps K Z vs xs) (h2 : SqL K Z b us) (r2 : Reps K Z us ys) : Walk K (Itz K a b) Z (zipD xs ys) := by
  have l1 := r1.length
  have l2 := r2.length
  have lz : (zipD xs ys).length = min xs.length ys.length := by simp [zipD]
  refine ⟨fun i Z' H' z zh hi => ⟨vs, us, zh.sqL (z.sqL h1), zh.sqL (z.sqL h2), by omega⟩, fun i d hd Z' H' z zh => ?_, fun i d hd Z' H' x H'' z zh y => ?_⟩
  · have hlt := (List.getElem?_eq_some_iff.mp hd).1
    exact ⟨vs, us, _, _, zh.sqL (z.sqL h1), zh.sqL (z.sqL h2), List.getElem?_eq_getElem (by omega), List.getElem?_eq_getElem (by omega)⟩
  · obtain ⟨T, u, v, rfl, hT, rfl, y1, y2⟩ := y
    have e1 := y1 vs (zh.sqL (z.sqL h1))
    have e2 := y2 us (zh.sqL (z.sqL h2))
    obtain ⟨dx, q1, q2⟩ := r1.getV e1
    obtain ⟨dy, q3, q4⟩ := r2.getV e2
    have : d = .tup [dx, dy] := by
      unfold zipD at hd
      rw [List.getElem?_zipWith, q1, q3] at hd
      simpa using hd.symm
    subst this
    have gd := Gr.data (o := .tup [u, v]) zh hT
    exact ⟨_, gd, .tup upd_same (.cons ((q2.mono z).mono gd.z) (.one ((q4.mono z).mono gd.z)))⟩
def oZip : List D → Option (List D)
  | [x, y] => match sqL? x, sqL? y with
    | some xs, some ys => some (zipD xs ys)
    | _, _ => none
  | _ => none
theorem si_zip {elts : List Expr} {kk : Nat} {tpos : Pos} (hg : g.sc.names.lookup ("zip" : Str) = some .globalImplicit) (hm : g.mg "zip" = none) (ha : SA g [a, b] fs) (hs : ∀ env, starEach [a, b] env = (false, eval a env) :: starEach [b] env := by intro _; rfl) (hs2 : ∀ env, ((backTo pos (starEach [b] env)).any (·.1)) = false := by intro _; rfl) :
    SI g (.Tuple elts kk tpos) (.Call (.Name "zip" p) [a, b] [] pos) (fIt oZip fs) := by
  obtain ⟨t, pt, s⟩ := ha
  refine ⟨iZip g.K t, fun X is => by rw [← is.K]; exact pi_zip (is.gl hg) (by rw [is.mg]; exact hm) (pt X is) (hs _) (hs2 _), fun fx Z H ρ σ ex w r e x Rr k => ?_⟩
  show t σ H fun vs H1 => ∃ a b xs ys, vs = [.ref a, .ref b] ∧ SqL g.K H1 a xs ∧ SqL g.K H1 b ys ∧ Rr (Itz g.K a b) H1
  refine sa_run s w e x fun ds ρ1 vs Z1 H1 e1 m1 r1 x1 => ?_
  obtain ⟨d', h1, h2⟩ := of_some e1
  unfold oZip at h1
  split at h1
  case h_2 => cases h1
  split at h1
  case h_2 => cases h1
  rename_i xs ys q1 q2
  cases h1
  cases r1 with
  | cons ra r1 =>
    cases r1 with
    | cons rb r1 =>
      cases r1
      obtain ⟨a', us, rfl, hs1, rs1⟩ := ra.sqL (.refl _) q1
      obtain ⟨b', us2, rfl, hs2', rs2⟩ := rb.sqL (.refl _) q2
      exact ⟨a', b', us, us2, rfl, m1.zh.sqL hs1, m1.zh.sqL hs2', k _ _ h2 _ Z1 H1 m1 (walk_zip hs1 rs1 hs2' rs2)⟩

/-! ### in a list of nested data -/
def oInD (neg : Bool) (x y : D) : Option D := match toPy x, toPy y with
  | some d, some (.list ds) => if SeqAt.shaped d = true ∧ SeqAt.shaped (.list ds) = true then some (.bl (if neg then !ds.any fun z => PyData.eqv z d else ds.any fun z => PyData.eqv z d)) else none
  | _, _ => none
theorem opd_inD {K : PySem.W.Frag} : OpD K (rInD K) (oInD false) := by
  intro Z H x y dx dy d z rx ry e Q k
  unfold oInD at e
  split at e
  · rename_i p q e1 e2
    split at e
    · rename_i h
      cases e
      exact ⟨p, q, rx.dp z e1, ry.dp z e2, h.1, h.2, k.now z (.bl _)⟩
    · cases e
  · cases e
theorem opd_notinD {K : PySem.W.Frag} : OpD K (rNotInD K) (oInD true) := by
  intro Z H x y dx dy d z rx ry e Q k
  unfold oInD at e
  split at e
  · rename_i p q e1 e2
    split at e
    · rename_i h
      cases e
      exact ⟨p, q, rx.dp z e1, ry.dp z e2, h.1, h.2, k.now z (.bl _)⟩
    · cases e
  · cases e
theorem Is.hu65 {X : Cx} (i : Is g X) : X.A.units + 65 < cLine := by
  have := i.room.un
  omega
theorem co_inD : Co g .In (rInD g.K) (oInD false) := ⟨fun X is => by rw [← is.K]; exact op_inD is.hu65, opd_inD⟩
theorem co_notinD : Co g .NotIn (rNotInD g.K) (oInD true) := ⟨fun X is => by rw [← is.K]; exact op_notInD is.hu65, opd_notinD⟩

/-! ### d.get(k) -/
def fDGet1 (fd fk : F D) : F D := fd.bind fun x => if isDct x then fk.bind fun y => F.of ((dget? x y).map fun o => o.getD .non) else fun _ => none
theorem se_dget1 {apos cpos : Pos} (ha : SE g a fa) (hb : SE g b fb) (hm : ∀ X : Cx, M1 X a "get" apos b cpos := by intro _; exact ⟨rfl, rfl, rfl, rfl⟩) : SE g (.Call (.Attribute a "get" apos) [b] [] cpos) (fDGet1 fa fb) := by
  obtain ⟨ta, pa, sa⟩ := ha
  obtain ⟨tb, pb, sb⟩ := hb
  refine ⟨tDGet1 ta tb, fun X is => pe_dget1 is.hu (pa X is) (pb X is) (hm X), fun fx Z H ρ σ ex w rr e x Q k => ?_⟩
  show ta σ H fun x H1 => ∃ a, x = V.ref a ∧ IsD H1 a ∧ tb σ H1 fun y H2 => ∃ o, DGet H2 a y o ∧ Q (o.getD .non) H2
  refine se_run sa w e x fun dx ρ1 v Z1 H1 e1 m1 r1 x1 => ?_
  split at e1
  case isFalse => cases e1
  rename_i hd
  obtain ⟨a, rfl, hD⟩ := r1.isD m1.zh hd
  refine ⟨a, rfl, hD, ?_⟩
  refine se_run sb m1.wd e1 x1 fun dy ρ2 u Z2 H2 e2 m2 r2 x2 => ?_
  obtain ⟨d', h1, h2⟩ := of_some e2
  cases q : dget? dx dy with
  | none => rw [q] at h1; cases h1
  | some o =>
    rw [q] at h1
    cases h1
    obtain ⟨a', r, q1, hg, hi, hv⟩ := (r1.mono m2.z).dget m2.zh r2 q
    cases q1
    have m := m1.trans m2
    refine ⟨r, hg, ?_⟩
    cases o with
    | none =>
      have : r = none := by cases r with | none => rfl | some _ => cases hi
      subst this
      exact k _ ρ2 h2 _ Z2 H2 m .non
    | some d =>
      obtain ⟨v', rfl, rv⟩ := hv d rfl
      exact k _ ρ2 h2 _ Z2 H2 m rv
/-! ### f() -/
def fCall0 (Fn : List D → Option RP) : F W := fCallP Fn aNil
theorem sw_call0 {Fn : List D → Option RP} (h : Cal g k x n (spP g.K Fn)) (hk : k ≤ g.k) (hg : g.sc.names.lookup x = some .globalImplicit) (hdb : (x == ("__debug__" : Str)) = false := by decide) : SW g (.Call (.Name x p) [] [] pos) (fCall0 Fn) := by
  refine ⟨tCall (spP g.K Fn) [] g.E tNil, fun X is => ?_, fun fx Z H ρ σ ex w rr e x Q k => ?_⟩
  · obtain ⟨f, fd, ps, F, hm, hkp, hb, _⟩ := h
    have pass := is.pass
    obtain ⟨h1, h2, h3, h4, h5, _, _, _, _, hr, _⟩ := id is
    rw [← h1, ← h2, ← h3, ← h4, ← h5] at F
    rw [← h4] at hm
    rw [← h3] at hkp hb
    rw [← h1, ← h2] at pass
    have := pe_call0 (X := X) (p := p) (pos := pos) F (hr.mono hk) (is.gl hg) hm hkp hb .nil pass hdb
    rw [h3] at this
    exact this
  · show spP g.K Fn ([] ++ []) H Q g.E
    unfold fCall0 fCallP at e
    obtain ⟨ds, ρ1, e0, e1⟩ | ⟨xx, ρ1, e0, _⟩ := bind_some e
    · cases e0
      have m1 : Mv g fx Z H ρ σ ex Z H := .refl w
      split at e1
      · rename_i w' q
        cases e1
        refine ⟨Z, [], _, w.zh, .nil, q, fun v Z2 H2 fp c rw' => ?_⟩
        obtain ⟨w2, f2⟩ := w.ch0 c
        exact k _ ρ rfl v Z2 H2 fp c.z w2 f2 rw'
      · rename_i e' q
        cases e1
        refine ⟨Z, [], _, w.zh, .nil, q, fun cc d Z2 H2 ch er => ?_⟩
        obtain ⟨w2, f2⟩ := w.ch0 ch
        exact x _ ρ rfl cc d Z2 H2 ⟨ch.z, w2, f2⟩ er
      · cases e1
    · cases e0
end
end FL
set_option Elab.async false
set_option linter.all false
set_option maxRecDepth 100000
set_option maxHeartbeats 1000000
/-! S13: C.m(..), m a staticmethod of the class -/
namespace FL
open PySem PySem.Spec PyProof.Rows L2
/-- C.m is a staticmethod: its record at p, its def at f -/
structure CSm (K : PySem.W.Frag) (C : Addr) (mc : Value) (m : Str) (p f : Addr) : Prop where
  rd : PySem.W.readsIn K C mc = true
  ga : PySem.W.specialIn K (.ref C) "__getattribute__" = some (some (.builtin "type.__getattribute__"))
  at_ : PySem.W.findCls K (.ref C) mc m = some (.get (.builtin "staticmethod.__get__") (.ref p) .none (.ref C))
  rc : ∃ rest, PySem.W.recIn K p "staticmethod" = some (.ref f :: rest)
def tSMeth (C : Addr) (sp : Sp) (E : XK) (ta : TE) (t : TA) : TE := fun σ H Q => ta σ H fun x H1 => x = .ref C ∧ t σ H1 fun vs H2 => sp (vs ++ []) H2 Q E
theorem pe_smeth {X : Cx} {CX : CXT} {k : Nat} {C p f : Addr} {fd : FuncData} {ps : List Str} {mc : Value} {sp : Sp} {E : XK} {o e : Expr} {es : List Expr} {m : Str} {pos apos : Pos} {ta : TE} {t : TA} {pl : Sem Bool} (he : PE X o ta) (c : CSm X.K C mc m p f) (F : FnOk X.prog X.w X.K X.mg X.base CX k f fd ps sp) (hr : Room k X.A) (hk : PySem.W.keepIn X.K (.ref f) = true) (hb : Binds X.K fd ps []) (hx : Passes CX X E) (ha : PA X (e :: es) t)
    (hst : starEach (e :: es) X.env = (false, eval e X.env) :: starEach es X.env := by rfl) (hpl : (backTo pos (starEach es X.env)).any (·.1) = false := by rfl)
    (ht : eval (.Call (.Attribute o m apos) (e :: es) [] pos) X.env = (do
      let ov ← eval o X.env
      standAt apos.atName
      let (f, first) ← holding [ov] (getMethod ov m pl)
      callWith pos f first (backTo pos (starEach (e :: es) X.env)) (backToKw pos (keywordEach [] X.env))) := by rfl) :
    PE X (.Call (.Attribute o m apos) (e :: es) [] pos) (tSMeth C sp E ta t) := by
  refine ⟨fun pins s σ H Q I h => ?_⟩
  refine PySem.W.methodCall_KW (pl := pl) (thn (he.run pins s σ H _ I h) fun u s1 ⟨x, H1, I1, rx, ex, q⟩ => ?_) ht
  subst ex
  obtain rfl : u = Value.ref C := rx
  obtain ⟨rest, hp⟩ := c.rc
  refine PySem.W.method_cls I1.kIn c.ga (PySem.W.cls_bind I1.kIn c.rd c.at_ (wpAny_call (PySem.W.sm_get (s := { s1 with toks := s1.toks + 1 }) I1.kIn hp (PySem.W.handed_on rfl ?_))))
  have I2 := I1.tok (s1.toks + 1)
  refine PySem.W.callWith_K (h₀ := X.base) (first := []) I.ok.mod.kin hk (thn (ha.run pos pins _ σ H1 _ I2 q) fun us s2 ⟨vs, H2, I3, r, q2⟩ => ⟨I3.kIn, ?_⟩) hst hpl
  exact run_fn F hr hb .nil hx I3 r q2
def CalS (g : Gm) (k : Nat) (cn m : Str) (n : Nat) (sp : Sp) : Prop := ∃ p f fd ps, CSm g.K (He.ga g.K cn) (.type "type") m p f ∧ FnOk g.P g.w g.K g.mg g.base (L2.CX g.P g.w) k f fd ps sp ∧ g.mg cn = some (.ref (He.ga g.K cn)) ∧ PySem.W.keepIn g.K (.ref f) = true ∧ Binds g.K fd ps [] ∧ ps.length = n
section
variable {g : Gm} {e : Expr} {es : List Expr} {fs : F (List D)} {k n : Nat} {cn m : Str} {p pos apos : Pos}
theorem sw_smeth {Fn : List D → Option RP} (h : CalS g k cn m n (spP g.K Fn)) (hk : k ≤ g.k) (hg : g.sc.names.lookup cn = some .globalImplicit) (ha : SA g (e :: es) fs) (hdb : (cn == ("__debug__" : Str)) = false := by decide)
    (he : ∀ env, starEach (e :: es) env = (false, eval e env) :: starEach es env := by intro _; rfl) (hpl : ∀ env, (backTo pos (starEach es env)).any (·.1) = false := by intro _; rfl)
    (ht : ∃ pl : Env → Sem Bool, ∀ env, eval (.Call (.Attribute (.Name cn p) m apos) (e :: es) [] pos) env = (do
      let ov ← eval (.Name cn p) env
      standAt apos.atName
      let (f, first) ← holding [ov] (getMethod ov m (pl env))
      callWith pos f first (backTo pos (starEach (e :: es) env)) (backToKw pos (keywordEach [] env))) := by exact ⟨fun _ => _, fun _ => rfl⟩) :
    SW g (.Call (.Attribute (.Name cn p) m apos) (e :: es) [] pos) (fCallP Fn fs) := by
  obtain ⟨q, f, fd, ps, cs, F, hm, hkp, hb, _⟩ := h
  obtain ⟨t, pt, s⟩ := ha
  obtain ⟨pl, ht⟩ := ht
  refine ⟨tSMeth (He.ga g.K cn) (spP g.K Fn) g.E (tC (.ref (He.ga g.K cn))) t, fun X is => ?_, fun fx Z H ρ σ ex w rr e x Q k => ?_⟩
  · have pass := is.pass
    obtain ⟨h1, h2, h3, h4, h5, _, _, _, _, hr, _⟩ := id is
    rw [← h1, ← h2, ← h3, ← h4, ← h5] at F
    rw [← h3] at hkp hb cs
    rw [← h1, ← h2] at pass
    have := pe_smeth (X := X) (pos := pos) (pl := pl X.env) (pe_glob (v := .ref (He.ga g.K cn)) (is.gl hg) (by rw [is.mg]; exact hm) rfl hdb) cs F (hr.mono hk) hkp hb pass (pt X is) (he _) (hpl _) (ht _)
    rw [h3] at this
    exact this
  show V.ref (He.ga g.K cn) = .ref (He.ga g.K cn) ∧ t σ H fun vs H2 => spP g.K Fn (vs ++ []) H2 Q g.E
  refine ⟨rfl, ?_⟩
  refine sa_run s w e x fun ds ρ1 vs Z1 H1 e1 m1 r1 x1 => ?_
  rw [List.append_nil]
  split at e1
  · rename_i w' q
    cases e1
    refine ⟨Z1, ds, _, m1.zh, r1, q, fun v Z2 H2 fp c rw' => ?_⟩
    obtain ⟨w2, f2⟩ := m1.wd.ch0 c
    exact k _ ρ1 rfl v Z2 H2 fp (m1.z.trans c.z) w2 (fun a ha => (f2 a ha).trans (m1.fr a ha)) rw'
  · rename_i e' q
    cases e1
    refine ⟨Z1, ds, _, m1.zh, r1, q, fun c d Z2 H2 ch er => ?_⟩
    obtain ⟨w2, f2⟩ := m1.wd.ch0 ch
    exact x1 _ ρ1 rfl c d Z2 H2 ⟨ch.z, w2, f2⟩ er
  · cases e1
end
end FL
set_option Elab.async false
set_option linter.all false
set_option maxRecDepth 100000
set_option maxHeartbeats 1000000
/-! S14: != of lists of objects with an own __eq__, where it says False -/
namespace FL.Ne
open PySem PySem.SeqAt
open AutoSeq1 (wpAny_loadPart')
open MeetsSeq MeetsSeq2 MeetsSeq3 SeqRoads2
open GQ
section
variable {prog : Program} {w : World} {A : Around} {R : Result → Shared → Prop}
theorem ne_loopG (l b : Addr) (N : Nat) (I : Nat → Shared → Prop) (hl : ListI prog w A (fun e s' => R (.error e) s') l b N I)
    (fin : ∀ s, I N s → R (.ok (.ret (.bool false))) s) (k : Nat) :
    ∀ i : Nat, N - i = k → i ≤ N → ∀ s, I i s →
      wpAny (model prog w) A.in1 (Builtin.«list.__eq__.loop» ⟨[.ref l, .ref b, rawInt i, rawInt 3], []⟩) (FinOf prog w A R) (fun e s' => R (.error e) s') s := by
  induction k with
  | zero =>
    intro i hk hi s h
    obtain ⟨items, items2, n, n2, hl1, hb1, hs1, hs2, _⟩ := hl _ _ h
    have hi' : i = N := by omega
    have hR : R (.ok (.ret (.bool false))) s := fin s (hi' ▸ h)
    obtain ⟨hp, g, d, tk, os⟩ := s
    wp_walk using wpAny_loadPart' hl1, wpAny_loadPart' hb1
    have hi1 : items[((i : Nat) : Int).toNat]? = none := by simp; omega
    have hi2 : items2[((i : Nat) : Int).toNat]? = none := by simp; omega
    rw [hi1, hi2]
    wp_walk using wpAny_loadPart' hl1, wpAny_loadPart' hb1
    show R (.ok (.ret (.bool (items.size != items2.size)))) _
    rw [hs1, hs2]
    simpa using hR
  | succ k ih =>
    intro i hk hi s h
    obtain ⟨items, items2, n, n2, hl1, hb1, hs1, hs2, turn⟩ := hl _ _ h
    have hlt : i < items.size := by omega
    have hlt2 : i < items2.size := by omega
    have ht := turn hlt hlt2
    obtain ⟨hp, g, d, tk, os⟩ := s
    wp_walk using wpAny_loadPart' hl1, wpAny_loadPart' hb1
    have hi1 : items[((i : Nat) : Int).toNat]? = some items[i] := by simp [hlt]
    have hi2 : items2[((i : Nat) : Int).toNat]? = some items2[i] := by simp [hlt2]
    have hc : ((i : Int) + 1) = ((i + 1 : Nat) : Int) := by omega
    rw [hi1, hi2]
    refine wpAny_bind (wpAny_mono ht (fun r s2 h2 => ?_) fun _ _ x => x)
    obtain ⟨hr, h2⟩ := h2
    subst hr
    have hrec := ih (i + 1) (by omega) (by omega) s2 h2
    obtain ⟨hp2, g2, d2, tk2, os2⟩ := s2
    wp_walk
    rw [hc]
    exact ⟨plainId_quiet plain_eq_loop _, codeAny_builtin entry_eq_loop (by
      rw [Around.under_plainId plain_eq_loop _]
      exact hrec)⟩
theorem list_neG (l b : Addr) (N : Nat) (I : Nat → Shared → Prop) (hl : ListI prog w A (fun e s' => R (.error e) s') l b N I)
    (fin : ∀ s, I N s → R (.ok (.ret (.bool false))) s) {s : Shared} (h : I 0 s) :
    wpAny (model prog w) A.in1 (Builtin.«list.__ne__» ⟨[.ref l, .ref b], []⟩) (FinOf prog w A R) (fun e s' => R (.error e) s') s := by
  obtain ⟨items, items2, n, n2, hl1, hb1, hs1, hs2, _⟩ := hl _ _ h
  have hrec := ne_loopG (A := A) (R := R) l b N I hl fin _ 0 rfl (Nat.zero_le _) s h
  obtain ⟨hp, g, d, tk, os⟩ := s
  have f3 := AutoSeq1.sub_list_list
  have hne : ¬ (items.size != items2.size) = true := by simp [hs1, hs2]
  wp_walk using wpAny_loadPart' hl1, wpAny_loadPart' hb1
  exact ⟨plainId_quiet plain_eq_loop _, codeAny_builtin entry_eq_loop (by
    rw [Around.under_plainId plain_eq_loop _]
    exact hrec)⟩
end
section
variable {prog : Program} {w : World} {A : Around} {E : Value → Shared → Prop} {s : Shared}
theorem rc_listN {l b : Addr} {N : Nat} {Q : Value → Shared → Prop} (hu : A.units < cLine) (I : Nat → Shared → Prop) (hl : ListI prog w A E l b N I)
    (fin : ∀ s, I N s → Q (.bool false) s) (h : I 0 s) : wpAny (model prog w) A (richCompare .NotEq (.ref l) (.ref b)) Q E s := by
  obtain ⟨items, items2, n, n2, hl1, hb1, _, _, _⟩ := hl _ _ h
  refine wpAny_richCompare_same_room (op := .NotEq) ⟨_, hl1, rfl⟩ ⟨_, hb1, rfl⟩ F.slot_list_ne (call_here F.slot_list_ne ⟨_, hl1, rfl⟩ F.entry_list_ne (F.args_list_ne_2 _ _) ?_) hu
  exact list_neG (R := wants (fun v s' => v ≠ .notImplemented ∧ Q v s') E) l b N I hl (fun s' q => ⟨(fun x => nomatch x), fin s' q⟩) h
end
end FL.Ne
namespace FL
open PySem PySem.Spec PyProof.Rows L2
def rNeG (D : Eqv) : R2 := fun x y H Q => DList D x y H ∧ ∀ H', Ext H H' → Q (.bl false) H'
theorem op_neG {X : Cx} {n : Nat} {D : Eqv} (hD : Mon D) (h : EqG X n D) (hr : Room (n + 1) X.A) : OpR X (compareOp .NotEq) (rNeG D) := by
  intro pins s σ H x y v u Q I rx ry hq
  obtain ⟨d, q⟩ := hq
  have sb : Sub X (n + 1) X.A := ⟨hr, rfl⟩
  show wpAny (model X.prog X.w) X.A (richCompare .NotEq v u) (EP X pins σ Q) X.xe s
  obtain ⟨a, b, xs, ys, rfl, rfl, ha, hb, p⟩ := d
  cases rx
  cases ry
  refine Ne.rc_listN (N := xs.length) sb.room.units0 (fun _ s' => LoopI X pins σ H s') (fun i s' q => ?_) (fun s' q' => ?_) ⟨H, I, Ext.rfl'⟩
  · obtain ⟨H1, I1, e1⟩ := id q
    obtain ⟨z, its, k, r, e⟩ := I1.hok a _ (e1 _ _ ha)
    obtain ⟨z2, its2, k2, r2, e2⟩ := I1.hok b _ (e1 _ _ hb)
    refine ⟨its.toArray, its2.toArray, k, k2, e, e2, by rw [List.size_toArray, ← r.length], by rw [List.size_toArray, ← r2.length, ← p.1], fun h1 h2 => ?_⟩
    exact turnG hD h sb p r r2 i h1 h2 s' q
  · obtain ⟨H', I', e⟩ := q'
    exact ⟨.bl false, H', I', rfl, q H' e⟩
theorem eqG_insK {X : Cx} {n : Nat} {C f : Addr} {CX : CXT} {fd : FuncData} {ps : List Str} {R : Addr → Addr → Hp → Prop} {E : XK} (F : FnOk X.prog X.w X.K X.mg X.base CX n f fd ps (spEq R))
    (hs : PySem.W.findIn X.K (.ref C) "__eq__" = some (some (.ref f))) (hf : PySem.W.isFn X.K (.ref f) = true) (hb : Binds X.K fd ps []) (hx : Passes CX X E) : EqG X n (DIns C R) := eqG_ins F hs hf hb hx
/-- the class cn has an own __eq__ -/
def CalE (g : Gm) (k : Nat) (cn : Str) (sp : Sp) : Prop := ∃ f fd ps, FnOk g.P g.w g.K g.mg g.base (L2.CX g.P g.w) k f fd ps sp ∧ PySem.W.findIn g.K (.ref (He.ga g.K cn)) "__eq__" = some (some (.ref f)) ∧ PySem.W.isFn g.K (.ref f) = true ∧ Binds g.K fd ps [] ∧ ps.length = 2
def isOb (cn : Str) : D → Bool
  | .obj c _ => c = cn
  | _ => false
def saysYes : Option RP → Bool
  | some (.ret (.va (.bl true))) => true
  | _ => false
theorem saysYes_ok {o : Option RP} (h : saysYes o = true) : o = some (.ret (.va (.bl true))) := by
  unfold saysYes at h
  split at h
  · rfl
  · cases h
def oNeO (cn : Str) (Fn : List D → Option RP) (x y : D) : Option D := match x, y with
  | .lst xs, .lst ys => if xs.length = ys.length ∧ (xs.zip ys).all (fun p => isOb cn p.1 && isOb cn p.2 && saysYes (Fn [p.1, p.2])) = true then some (.bl false) else none
  | _, _ => none
def REq (K : PySem.W.Frag) (Fn : List D → Option RP) (a b : Addr) (H : Hp) : Prop := ∃ d1 d2, Rep K H (.ref a) d1 ∧ Rep K H (.ref b) d2 ∧ Fn [d1, d2] = some (.ret (.va (.bl true)))
theorem REq.mon {K : PySem.W.Frag} {Fn : List D → Option RP} (a b : Addr) (H H' : Hp) (e : Ext H H') (h : REq K Fn a b H) : REq K Fn a b H' := by
  obtain ⟨d1, d2, r1, r2, q⟩ := h
  exact ⟨d1, d2, r1.mono e, r2.mono e, q⟩
theorem fnEq {P : Program} {w : World} {K : PySem.W.Frag} {mg : Str → Option Value} {base : Heap} {CX : CXT} {k : Nat} {f : Addr} {fd : FuncData} {ps : List Str} {Fn : List D → Option RP} (F : FnOk P w K mg base CX k f fd ps (spP K Fn)) : FnOk P w K mg base CX k f fd ps (spEq (REq K Fn)) := by
  refine F.imp fun vs H Q E h => ?_
  obtain ⟨a, b, rfl, ⟨d1, d2, r1, r2, q⟩, k⟩ := h
  refine ⟨H, [d1, d2], _, .refl _, .cons r1 (.one r2), q, fun v Z' H' fp c rw' => ?_⟩
  cases rw' with
  | va rv =>
    cases rv
    exact k H' fun a o h => c.zh a o (c.z a o h)
def rNeO (K : PySem.W.Frag) (cn : Str) (Fn : List D → Option RP) : R2 := rNeG (DIns (He.ga K cn) (REq K Fn))
theorem opd_neO {K : PySem.W.Frag} {cn : Str} {Fn : List D → Option RP} : OpD K (rNeO K cn Fn) (oNeO cn Fn) := by
  intro Z H x y dx dy d z rx ry e Q k
  unfold oNeO at e
  split at e
  case h_2 => cases e
  rename_i xs ys
  split at e
  case isFalse => cases e
  rename_i hc
  obtain ⟨hlen, hall⟩ := hc
  cases e
  cases rx with
  | lst h1 r1 =>
    cases ry with
    | lst h2 r2 =>
      refine ⟨⟨_, _, _, _, rfl, rfl, z _ _ h1, z _ _ h2, by rw [r1.length, r2.length, hlen], fun i u v hu hv => ?_⟩, fun H' e => k _ Z H' ⟨.refl _, e, fun a o h => e a o (z a o h), fun _ _ h => .inl h⟩ (.bl _)⟩
      obtain ⟨d1, g1, q1⟩ := r1.getV hu
      obtain ⟨d2, g2, q2⟩ := r2.getV hv
      have hm : (d1, d2) ∈ xs.zip ys := by
        refine List.mem_iff_getElem?.mpr ⟨i, ?_⟩
        rw [List.getElem?_zip_eq_some]
        exact ⟨g1, g2⟩
      have ha := List.all_eq_true.mp hall _ hm
      simp only [Bool.and_eq_true] at ha
      obtain ⟨⟨a1, a2⟩, a3⟩ := ha
      unfold isOb at a1 a2
      split at a1
      case h_2 => cases a1
      split at a2
      case h_2 => cases a2
      rename_i c1 f1 p1 c2 f2 p2
      have e1 := of_decide_eq_true a1
      have e2 := of_decide_eq_true a2
      subst e1
      subst e2
      cases id q1 with
      | obj o1 k1 s1 =>
        cases id q2 with
        | obj o2 k2 s2 =>
          exact ⟨_, _, _, _, _, _, rfl, rfl, z _ _ o1, z _ _ o2, _, _, q1.mono z, q2.mono z, saysYes_ok a3⟩
theorem co_neO {g : Gm} {k : Nat} {cn : Str} {Fn : List D → Option RP} (h : CalE g k cn (spP g.K Fn)) (hk : k + 1 ≤ g.k) : Co g .NotEq (rNeO g.K cn Fn) (oNeO cn Fn) := by
  refine ⟨fun X is => ?_, opd_neO⟩
  obtain ⟨f, fd, ps, F, hs, hf, hb, _⟩ := h
  have pass := is.pass
  obtain ⟨h1, h2, h3, h4, h5, _, _, _, _, hr, _⟩ := id is
  rw [← h1, ← h2, ← h3, ← h4, ← h5] at F
  rw [← h3] at hs hf hb ⊢
  rw [← h1, ← h2] at pass
  exact op_neG (mon_ins REq.mon) (eqG_ins (fnEq F) hs hf hb pass) (hr.mono hk)
end FL
set_option Elab.async false
set_option linter.all false
set_option maxRecDepth 100000
set_option maxHeartbeats 1000000
/-! S15: the sum of a tuple -/
namespace FL.Sm
open PySem
section
variable {prog : Program} {w : World} {A : Around} {E : Value → Shared → Prop} {s : Shared} {l : Addr} {xs : Array (Int × Tok)}
theorem iter_intTup {Q : Value → Shared → Prop} (hl : s.heap.IsTuple l (intItems xs))
    (h : ∀ s₂ : Shared, s₂ = { s with heap := s.heap.push { cls := .type "tuple_iterator", data := .fields #[.ref l, .int 0 0] } } →
      (s₂.heap.IsTupleIter s.heap.objs.size l 0 ∧ s₂.heap.IsTuple l (intItems xs)) → (∀ b ∈ [s.heap.objs.size, l], b < s₂.heap.objs.size) → l ≠ s.heap.objs.size → Q (.ref s.heap.objs.size) s₂) :
    wpAny (model prog w) A (pyIter (.ref l)) Q E s := by
  have hlt : l < s.heap.objs.size := by obtain ⟨_, e, _⟩ := hl; exact Heap.lt_size e
  refine wpAny_pyIter_tuple hl (h _ rfl ⟨⟨_, Heap.get?_push_size _ rfl, rfl, rfl⟩, hl.push _⟩ (fun b hb => ?_) (Nat.ne_of_lt hlt))
  show b < (s.heap.push _).objs.size
  rw [Heap.size_push]
  rcases List.mem_cons.mp hb with rfl | hb
  · exact Nat.lt_succ_self _
  · rcases List.mem_cons.mp hb with rfl | hb
    · exact Nat.lt_succ_of_lt hlt
    · cases hb
theorem old_keptT {h' : Heap} (hk : ∀ b o, b ∉ [s.heap.objs.size] → (s.heap.push { cls := .type "tuple_iterator", data := .fields #[.ref l, .int 0 0] }).get? b = some o → h'.get? b = some o) :
    ∀ b o, s.heap.get? b = some o → h'.get? b = some o := fun b o e => by
  refine hk b o (fun hm => ?_) (Heap.get?_push_of_some _ e)
  rcases List.mem_cons.mp hm with e1 | hm
  · exact absurd (e1 ▸ Heap.lt_size e) (Nat.lt_irrefl _)
  · cases hm
theorem sum_intTupG {Q : Value → Shared → Prop} (hh : A.handled = none) (hl : s.heap.IsTuple l (intItems xs))
    (h : ∀ h' tk t', (∀ b o, s.heap.get? b = some o → h'.get? b = some o) → Q (.int (preSum (numAt xs) xs.size) t') { s with heap := h', toks := tk }) :
    wpAny (model prog w) A (call (.builtin "sum") [.ref l]) Q E s := by
  refine call_sum_walkG (iter_intTup hl fun s₂ e st hfp hlI => ?_)
  subst e
  refine ⟨_, _, _, _, _, _, numAt xs, rfl, Walks.tuple (A := A.in1) hh _ l hlI (intItems xs), st, hfp, (fun _ _ => intItems_at), fun h' tk t' hk => ?_⟩
  have := h h' tk t' (old_keptT hk)
  simpa [intItems] using this
end
end FL.Sm
namespace FL
open PySem PySem.Spec PyProof.Rows L2
theorem sum_rawT {prog : Program} {w : World} {A : Around} {E : Value → Shared → Prop} {s : Shared} {l : Addr} {its : List Value} {ns : List Int} {Q : Value → Shared → Prop} (hh : A.handled = none) (hl : s.heap.IsTuple l its.toArray) (hi : IntsAre its ns)
    (h : ∀ h' tk t', (∀ b o, s.heap.get? b = some o → h'.get? b = some o) → Q (.int ns.sum t') { s with heap := h', toks := tk }) : wpAny (model prog w) A (call (.builtin "sum") [.ref l]) Q E s := by
  obtain ⟨xs, e⟩ := hi.allInts.items
  have hn : numsOf (intItems xs).toList = ns := by rw [← e]; exact hi.numsOf
  rw [nums_intItems] at hn
  rw [e] at hl
  refine Sm.sum_intTupG hh hl fun h' tk t' hk => ?_
  have := h h' tk t' hk
  rw [preSum_eq, List.take_of_length_le (by simp), hn]; exact this
def rSumT (K : PySem.W.Frag) : List V → Hp → VK → Prop := fun vs H Q => ∃ (a : Addr) (ns : List Int), vs = [V.ref a] ∧ SqT K H a (ns.map V.int) ∧ Q (.int ns.sum) H
theorem cr_sumT {X : Cx} (hc : X.calm = true) : CallR X (.builtin "sum") (rSumT X.K) := by
  intro pins s σ H vs us Q I r h
  obtain ⟨a, ns, rfl, hs, q⟩ := h
  obtain ⟨its, rv, hl, _⟩ := I.tuple hs
  rw [Vals.ref1 r]
  exact sum_rawT (I.ok.hd hc) hl rv.ints fun h' tk t' hk => ⟨.int _, H, I.kept hk, ⟨_, rfl⟩, q⟩
def oSumT : List D → Option D
  | [d] => (sqT? d).bind fun xs => (ints? xs).map fun ns => .int ns.sum
  | _ => none
theorem cad_sumT {K : PySem.W.Frag} : CaD K (rSumT K) oSumT := fun Z H vs ds d z r e Q k => by
  unfold oSumT at e
  split at e
  · obtain ⟨xs, h1, h2⟩ := Option.bind_eq_some_iff.mp e
    obtain ⟨ns, h3, h4⟩ := Option.map_eq_some_iff.mp h2
    subst h4
    cases r with
    | cons r1 r2 =>
      cases r2
      obtain ⟨a, us, rfl, hs, hr⟩ := r1.sqT z h1
      have := ints_eq h3
      subst this
      have := hr.ints_inv
      subst this
      exact ⟨a, ns, rfl, hs, k.now z (.int _)⟩
  · cases e
theorem bi_sumA {g : Gm} : Bi g "sum" (fun xs H Q => rSum g.K xs H Q ∨ rSumT g.K xs H Q) (fun xs => (oSum xs).or (oSumT xs)) := ⟨fun X is => by rw [← is.K]; exact CallR.or (cr_sum is.calm) (cr_sumT is.calm), cad_sum.or cad_sumT⟩
end FL
set_option Elab.async false
set_option linter.all false
set_option maxRecDepth 100000
set_option maxHeartbeats 1000000
/-! S16: isinstance(x, C), x an object of the class C -/
namespace FL
open PySem PySem.Spec PyProof.Rows L2
structure CIs (K : PySem.W.Frag) (C : Addr) : Prop where
  cl : Cls K C
  f : PySem.W.findIn K (.ref C) "__class__" = some (some (.builtin "object.__class__"))
  g : PySem.W.specialIn K (.builtin "object.__class__") "__get__" = some (some (.builtin "getset_descriptor.__get__"))
  t : PySem.W.takesIn K (.builtin "object.__class__") = some true
  m : PySem.W.mroIn K C (.type "object") = some true
def oIsiC (cn : Str) : List D → Option D
  | [.obj c _, .cls c'] => if c = cn ∧ c' = cn then some (.bl true) else none
  | _ => none
theorem cad_isiC {K : PySem.W.Frag} {cn : Str} (h : CIs K (He.ga K cn)) : CaD K (rIsiA K) (oIsiC cn) := fun Z H xs ds d z rs e Q k => by
  unfold oIsiC at e
  split at e
  · rename_i c fs c'
    split at e
    · rename_i hc
      obtain ⟨rfl, rfl⟩ := hc
      cases e
      cases rs with
      | cons r1 rs =>
        cases rs with
        | cons r2 rs =>
          cases rs
          cases r2
          cases r1 with
          | obj ho _ _ =>
            refine .inl ⟨_, _, _, _, true, rfl, .own _, .base (.ins (z _ _ ho) h.cl h.f h.g h.t h.m), ?_, k.now z (.bl _)⟩
            unfold PySem.W.kitOne
            rw [if_pos (by simp)]
    · cases e
  · cases e
theorem bi_isiC {g : Gm} {cn : Str} (h : CIs g.K (He.ga g.K cn)) : Bi g "isinstance" (rIsiA g.K) (oIsiC cn) := ⟨fun X is => by rw [← is.K]; exact caR_isi, cad_isiC h⟩
def oSumA : List D → Option D := fun xs => (oSum xs).or (oSumT xs)
end FL
set_option Elab.async false
set_option linter.all false
set_option maxRecDepth 100000
set_option maxHeartbeats 4000000
/-! S17: a tuple once -/
namespace FL
open PySem PySem.Spec PyProof.Rows L2
theorem tuple_mul1W (l : Addr) (items : Array Value) (n : Nat) (dd : Option Addr) (sl : Array (Option Value)) (x : Int) (u : Tok) (c0 : (decide (x < -(2 ^ 63)) || decide (x ≥ 2 ^ 63)) = false) (c1 : (items.isEmpty || x == 1) = true) :
    Meets (Builtin.«tuple.__mul__» ⟨[.ref l, .int x u], []⟩) (fun _ R s => s.heap.get? l = some { cls := .type "tuple", dict := dd, data := .seq items n, slots := sl } ∧ R (.ok (.ret (Value.ref l))) { s with heap := s.heap, toks := s.toks }) :=
  .of_wp fun prog w A R s h => by
    obtain ⟨hp, g, d, tk, os⟩ := s
    obtain ⟨hl, h⟩ := h
    have f1 := AutoSeq1.idx_int
    wp_walk using wpAny_loadPart' hl
    repeat (first
      | (refine wpAny_ite_false (decide_eq_false (by rw [c0]; exact Bool.false_ne_true)) ?_; wp_walk using wpAny_loadPart' hl)
      | (refine wpAny_ite_true (decide_eq_true c1) ?_; wp_walk using wpAny_loadPart' hl))
    exact ⟨_, rfl, h⟩
def rRepT1 (K : PySem.W.Frag) : R2 := fun x y H Q => ∃ l xs, x = .ref l ∧ y = .int 1 ∧ SqT K H l xs ∧ Q (.ref l) H
theorem op_repT1 {X : Cx} : OpR X (binaryOp .Mult) (rRepT1 X.K) := by
  intro pins s σ H x y v u Q I rx ry h
  obtain ⟨l, xs, rfl, rfl, hT, q⟩ := h
  cases rx
  obtain ⟨t, rfl⟩ := ry
  obtain ⟨its, r, ⟨⟨cls, dd, data, sl⟩, ho, hc, n, hd⟩, hs⟩ := I.tuple hT
  simp only at hc hd
  subst hc hd
  have c0 : (decide ((1 : Int) < -(2 ^ 63)) || decide ((1 : Int) ≥ 2 ^ 63)) = false := by decide +kernel
  have c1 : (its.toArray.isEmpty || (1 : Int) == 1) = true := by simp
  refine wpAny_binaryOp_repeat_ref (T := "tuple") (U := "int") (by decide) ⟨_, ho, rfl⟩ (fun s' => typeIs_int s' 1 t) noFill_tuple_mul F.fills_int_mul F.slot_int_rmul repeat_tuple F.slot_int_index.lookup
    (call_meets F.slot_int_rmul (typeIs_int s 1 t) F.entry_int_rmul (F.args_int_rmul_2 _ _) (int_rmul_tuple 1 t l its.toArray n dd sl)
      ⟨ho, rfl, ⟨_, ho, rfl⟩, call_meets F.slot_tuple_mul ⟨_, ho, rfl⟩ F.entry_tuple_mul (F.args_tuple_mul_2 _ _) (tuple_mul1W l its.toArray n dd sl 1 t c0 c1) ⟨ho, ?_⟩⟩)
  exact ⟨.ref l, H, I, rfl, q⟩
def oRepT1 : D → D → Option D
  | .tup xs, .int k => if k = 1 then some (.tup xs) else none
  | _, _ => none
theorem opd_repT1 {K : PySem.W.Frag} : OpD K (rRepT1 K) oRepT1 := by
  intro Z H x y dx dy d z rx ry e Q k
  cases rx with
  | tup hx rx =>
    cases ry with
    | int j =>
      simp only [oRepT1] at e
      split at e
      · rename_i h
        cases e
        subst h
        exact ⟨_, _, rfl, rfl, .of (z _ _ hx), k.now z (.tup hx rx)⟩
      · cases e
    | _ => simp [oRepT1] at e
  | _ => simp [oRepT1] at e
def oMulB (x y : D) : Option D := (oMul x y).or (oRepT1 x y)
theorem bo_mulB {g : Gm} : Bo g .Mult (fun x y H Q => rMulA g.K x y H Q ∨ rRepT1 g.K x y H Q) oMulB := ⟨fun X is => by rw [← is.K]; exact opr_mul.or op_repT1, opd_mul.or opd_repT1⟩
end FL
set_option Elab.async false
set_option linter.all false
set_option maxRecDepth 100000
set_option maxHeartbeats 4000000
/-! S18: enumerate over a tuple -/
namespace FL
open PySem PySem.Spec PyProof.Rows L2
open AutoSeq1 (wpAny_loadPart')
theorem meets_enumerate_newT (l : Addr) (items : Array Value) (n : Nat) (dct : Option Addr) (sl : Array (Option Value)) :
    Meets (Builtin.«enumerate.__new__» ⟨[.type "enumerate", .ref l], []⟩) (fun _ R s => s.heap.get? l = some { cls := .type "tuple", dict := dct, data := .seq items n, slots := sl } ∧
      R (.ok (.ret (.ref (s.heap.push { cls := .type "tuple_iterator", data := .fields #[.ref l, .int 0 0] }).objs.size)))
        { s with heap := (s.heap.push { cls := .type "tuple_iterator", data := .fields #[.ref l, .int 0 0] }).push { cls := .type "enumerate", data := .fields #[.none, .bool false, .ref s.heap.objs.size, rawInt 0, .none, .none] } }) :=
  .of_wp fun prog w A R s h => by
    obtain ⟨hp, g, d, tk, os⟩ := s; obtain ⟨hl, h⟩ := h
    have hsub := sub_enumerate
    have hL : Heap.IsTuple (Shared.heap ⟨hp, g, d, tk, os⟩) l items := ⟨_, hl, rfl, n, rfl⟩
    wp_walk using wpAny_loadPart' hl
    refine wpAny_stack_any fun st => wpAny_pure ?_
    split
    · rename_i c _ _ _ _ _
      cases (c == Value.type "enumerate")
      · wp_walk using wpAny_loadPart' hl, wpAny_pyIter_tuple hL
        exact ⟨_, rfl, h⟩
      · wp_walk using wpAny_loadPart' hl, wpAny_pyIter_tuple hL
        exact ⟨_, rfl, h⟩
    · wp_walk using wpAny_loadPart' hl, wpAny_pyIter_tuple hL
      exact ⟨_, rfl, h⟩
theorem call_enumerate_tuple {prog : Program} {w : World} {A : Around} {E : Value → Shared → Prop} {s : Shared} {l : Addr} {items : Array Value} {Q : Value → Shared → Prop} (hL : s.heap.IsTuple l items)
    (h : ∀ h', IsEnum h' (s.heap.objs.size + 1) s.heap.objs.size 0 .none → h'.IsTupleIter s.heap.objs.size l 0 → h'.objs.size = s.heap.objs.size + 2 →
      (∀ b o, s.heap.get? b = some o → h'.get? b = some o) → Q (.ref (s.heap.objs.size + 1)) { s with heap := h' }) :
    wpAny (model prog w) A (call (.type "enumerate") [.ref l]) Q E s := by
  obtain ⟨⟨c, dct, dt, sl⟩, hl, hc, n, hd⟩ := hL
  replace hc : c = .type "tuple" := hc
  replace hd : dt = .seq items n := hd
  subst hc hd
  refine callType_new F.called_enumerate (by decide) (F.typeCall_enumerate_1 _) (F.newCall_enumerate_1 _) (fun obj => F.args_object_init_2 obj _) F.entry_enumerate_new
    (meets_enumerate_newT l items n dct sl) ⟨hl, ?_⟩
  have hz : (s.heap.push { cls := .type "tuple_iterator", data := .fields #[.ref l, .int 0 0] }).objs.size = s.heap.objs.size + 1 := Heap.size_push ..
  show _ ∧ _
  rw [hz]
  have he : IsEnum ((s.heap.push { cls := .type "tuple_iterator", data := .fields #[.ref l, .int 0 0] }).push
      { cls := .type "enumerate", data := .fields #[.none, .bool false, .ref s.heap.objs.size, rawInt 0, .none, .none] }) (s.heap.objs.size + 1) s.heap.objs.size 0 .none := by
    have := Heap.get?_push_size (s.heap.push { cls := .type "tuple_iterator", data := .fields #[.ref l, .int 0 0] })
      (o := { cls := .type "enumerate", data := .fields #[.none, .bool false, .ref s.heap.objs.size, rawInt 0, .none, .none] }) rfl
    rw [hz] at this; exact this
  refine ⟨⟨_, he, rfl⟩, h _ he ⟨_, Heap.get?_push_of_some _ (Heap.get?_push_size _ rfl), rfl, rfl⟩ (by rw [Heap.size_push, hz]) fun b o x => Heap.get?_push_of_some _ (Heap.get?_push_of_some _ x)⟩
def IteT (K : PySem.W.Frag) (a : Addr) : It :=
  ⟨fun i H => ∃ (xs : List V) (x : V), SqT K H a xs ∧ xs[i]? = some x, fun i H v H' => ∃ T x, v = .ref T ∧ H T = none ∧ H' = upd H T (.tup [.int (i : Nat), x]) ∧ ∀ xs, SqT K H a xs → xs[i]? = some x, fun i H => ∃ xs : List V, SqT K H a xs ∧ xs.length ≤ i⟩
theorem turn_enumT {P : Program} {w : World} {K : PySem.W.Frag} {elts : List Expr} {kk : Nat} {tpos : Pos} (a e it : Addr) :
    Turn P w K (.Tuple elts kk tpos) (IteT K a) [e, it] e (fun i h => (∃ old, IsEnum h e it ((i : Nat) : Int) old) ∧ h.IsTupleIter it a i ∧ e ≠ it ∧ a ≠ it ∧ a ≠ e) where
  mem := by simp
  obj := fun i h st b hb => by
    obtain ⟨⟨old, he⟩, ⟨o, ho, hc, hd⟩, _⟩ := st
    have e' : b = e ∨ b = it := by simpa using hb
    rcases e' with z | z
    · rw [z]; exact ⟨_, he, fun v q => nomatch q⟩
    · rw [z]; exact ⟨o, ho, fun v q => by rw [hd] at q; cases q⟩
  keep := fun i h h' st k => let ⟨⟨old, he⟩, hi, hne⟩ := st; ⟨⟨old, k e (by simp) _ he⟩, hi.at fun o q => k it (by simp) o q, hne⟩
  item := by
    intro X hP hw hK hc i pins s σ H E I hf st hg
    subst hP hw hK
    obtain ⟨⟨old, he⟩, hit, hne, hai, hae⟩ := st
    obtain ⟨xs, x, hq, hx⟩ := hg
    obtain ⟨its, rv, p, hz⟩ := I.tuple hq
    obtain ⟨u, hu, ru⟩ := rv.get hx
    have hel : e < s.heap.objs.size := Heap.lt_size he
    have hil : it < s.heap.objs.size := by obtain ⟨_, q, _⟩ := hit; exact Heap.lt_size q
    have D := Draws.tuple (prog := X.prog) (w := X.w) (A := X.A.in1) (I.ok.hd hc) it a hai its.toArray
    have hi : i < its.toArray.size := by
      have := (List.getElem?_eq_some_iff.mp hu).1
      simpa using this
    refine wpAny_pyNext_enum_itemD D he ⟨hit, p⟩ hi hne (by simp [hne, Ne.symm hae]) fun u' h' tk hP ho hst' hT hsz hk => ?_
    have eu : u' = u := by
      have hP' : its.toArray[i]? = some u' := hP
      have : its[i]? = some u' := by simpa using hP'
      rw [hu] at this
      exact (Option.some.inj this).symm
    subst eu
    refine ⟨_, rfl, wpAny_letOwnedTupleGo_enum (s := { s with heap := h', toks := tk + 1 }) ho fun h'' he' sb => ?_⟩
    have hT2 : h''.get? s.heap.objs.size = some { cls := .type "tuple", data := .seq #[.int i tk, u'] } := (sb.2 _ (Nat.ne_of_gt hel)).trans hT
    have new : ObjOk X.prog X.w (upd H s.heap.objs.size (.tup [.int (i : Nat), x])) h'' s.heap.objs.size (.tup [.int (i : Nat), x]) :=
      ⟨by show 2 ≤ sizeLine; decide, [.int i tk, u'], .cons ⟨_, rfl⟩ (.cons ru .nil), ⟨_, hT2, rfl, _, rfl⟩⟩
    have I1 : Inv X pins σ (upd H s.heap.objs.size (.tup [.int (i : Nat), x])) { s with heap := h'', toks := tk + 1 } :=
      I.turnedNew (ch := [e, it]) (fun b ob hb q => (sb.2 b (fun z => hb (by simp [z]))).trans (hk b ob (fun z => hb (by simp [z])) (fun z => hb (by simp [z])) q)) hf (Nat.le_refl _) new
    refine ⟨.ref s.heap.objs.size, _, I1, rfl, ⟨_, x, rfl, I.hok.fresh (Nat.le_refl _), rfl, fun ys hy => by rw [I.tuple_inj hy hq]; exact hx⟩, ⟨⟨u', ?_⟩, hst'.1.at fun o q => (sb.2 it (Ne.symm hne)).trans q, hne, hai, hae⟩, fun b hb => ?_⟩
    · have e1 : ((i + 1 : Nat) : Int) = (i : Int) + 1 := by omega
      rw [e1]; exact he'
    · have hb' : b < s.heap.objs.size := by
        have e' : b = e ∨ b = it := by simpa using hb
        rcases e' with z | z
        · rw [z]; exact hel
        · rw [z]; exact hil
      rw [upd_ne (Nat.ne_of_lt hb')]
      exact (hf b hb).1
  done := by
    intro X hP hw hK hc i pins s σ H E I hf st hg
    subst hP hw hK
    obtain ⟨⟨old, he⟩, hit, hne, hai, hae⟩ := st
    obtain ⟨xs, hq, hx⟩ := hg
    obtain ⟨its, rv, p, hz⟩ := I.tuple hq
    obtain ⟨f0, f1, f2, f3, f4, f5⟩ := hf it (by simp)
    have hl := rv.length
    have hT : s.TypeIs (.ref e) "enumerate" := ⟨_, he, rfl⟩
    unfold pyNext
    refine wpAny_bind (wpAny_attempt (wpAny_callSpecial?_slot (name := Str.ofString "__next__") hT F.slot_enumerate_next
      (wpAny_call_entry F.slot_enumerate_next hT F.entry_enumerate_next ?_ (F.args_enumerate_next_1 _))))
    show wpAny _ _ (field (.ref e) 2 >>= _) _ _ _
    refine wpAny_bind (wpAny_field he rfl (x := .ref it) rfl ?_)
    refine wpAny_bind (wpAny_nextOf_tuple_end (I.ok.hd hc) hit (show s.heap.IsTuple a its.toArray from p) (by simp; omega) fun h' x he' hx' => ?_)
    obtain ⟨o, ho, hcc⟩ := hx'
    refine wpAny_bind (wpAny_isInstance (T := "StopIteration") (b := true) ⟨o, ho, hcc⟩ isSubtype_stop ?_)
    exact wpAny_pure ⟨rfl, I.turned (t' := s.toks) (fun b o hb q => he' b o hb q) f0 f1 f3 f4 f5⟩
  self := fun A i s Q E st h => let ⟨⟨_, he⟩, _⟩ := st; wpAny_pyIter_enum he h
def iEnumT (K : PySem.W.Frag) (ta : TA) : TI := fun σ H R => ta σ H fun vs H1 => ∃ a xs, vs = [.ref a] ∧ SqT K H1 a xs ∧ R (IteT K a) H1
theorem pi_enumT {X : Cx} {e : Expr} {ta : TA} {p pos tpos : Pos} {elts : List Expr} {kk : Nat} (hg : Gl X "enumerate") (hm : X.mg "enumerate" = none) (ha : PA X [e] ta) (hs : starEach [e] X.env = [(false, eval e X.env)] := by rfl) :
    PI X (.Tuple elts kk tpos) (.Call (.Name "enumerate" p) [e] [] pos) (iEnumT X.K ta) := by
  refine ⟨fun pins s σ H R I h => ?_⟩
  refine Call_ (ld_blt I hg hm boot_enumerate (PyProof.Rows.callWith_type1 (thn (ha.run pos pins s σ H _ I h) fun us s1 ⟨vs, H1, I1, r1, q1⟩ => ?_) hs rfl))
  obtain ⟨a, xs, ex, hq, q⟩ := q1
  subst ex
  cases r1 with
  | cons r rr =>
    cases rr
    cases r
    obtain ⟨its, rv, p', hz⟩ := I1.tuple hq
    have hal : a < s1.heap.objs.size := by obtain ⟨_, e, _⟩ := id p'; exact Heap.lt_size e
    refine call_enumerate_tuple (show s1.heap.IsTuple a its.toArray from p') fun h' he hit hsz hk => wpAny_pyIter_enum he ?_
    have I2 : Inv X pins σ H1 { s1 with heap := h' } := I1.kept (t' := s1.toks) hk
    refine ⟨s1.heap.objs.size + 1, [s1.heap.objs.size + 1, s1.heap.objs.size], _, _, H1, rfl, I2, turn_enumT a (s1.heap.objs.size + 1) s1.heap.objs.size, ⟨⟨.none, he⟩, hit, Nat.succ_ne_self _, Nat.ne_of_lt hal, Nat.ne_of_lt (Nat.lt_succ_of_lt hal)⟩, fun b hb => ?_, q⟩
    have e' : b = s1.heap.objs.size + 1 ∨ b = s1.heap.objs.size := by simpa using hb
    have hle : s1.heap.objs.size ≤ b := by
      rcases e' with z | z
      · rw [z]; exact Nat.le_add_right _ _
      · rw [z]; exact Nat.le_refl _
    exact I1.fpOk hle (I1.hok.fresh hle)
section
variable {g : Gm} {fx : Fx} {Z Z' H H' : Hp} {ρ ρ1 : Rho} {σ : L2.St} {ex : List Addr}
variable {e a b : Expr} {fs : F (List D)} {pos p tpos : Pos} {elts : List Expr} {kk : Nat}
theorem walk_enumT {K : PySem.W.Frag} {a : Addr} {vs : List V} {ds : List D} (h : SqT K Z a vs) (r : Reps K Z vs ds) : Walk K (IteT K a) Z (enumD 0 ds) := by
  have l := r.length
  have l2 := enumD_length ds 0
  refine ⟨fun i Z' H' z zh hi => ⟨vs, zh.sqT (z.sqT h), by omega⟩, fun i d hd Z' H' z zh => ?_, fun i d hd Z' H' x H'' z zh y => ?_⟩
  · obtain ⟨d0, h0, _⟩ := enumD_get hd
    obtain ⟨v, h1, _⟩ := r.get h0
    exact ⟨vs, v, zh.sqT (z.sqT h), h1⟩
  · obtain ⟨d0, h0, rfl⟩ := enumD_get hd
    obtain ⟨T, u, rfl, hT, rfl, y⟩ := y
    obtain ⟨v, h1, h2⟩ := r.get h0
    have := y vs (zh.sqT (z.sqT h))
    rw [h1] at this
    obtain rfl : v = u := Option.some.inj this
    have gd := Gr.data (o := .tup [.int (i : Nat), v]) zh hT
    refine ⟨_, gd, .tup upd_same (.cons ?_ (.one ((h2.mono z).mono gd.z)))⟩
    rw [Nat.zero_add]
    exact .int _
def oEnumT : List D → Option (List D)
  | [d] => (sqT? d).map (enumD 0)
  | _ => none
theorem si_enumT (hg : g.sc.names.lookup ("enumerate" : Str) = some .globalImplicit) (hm : g.mg "enumerate" = none) (ha : SA g [a] fs) (hs : ∀ env, starEach [a] env = [(false, eval a env)] := by intro _; rfl) :
    SI g (.Tuple elts kk tpos) (.Call (.Name "enumerate" p) [a] [] pos) (fIt oEnumT fs) := by
  obtain ⟨t, pt, s⟩ := ha
  refine ⟨iEnumT g.K t, fun X is => by rw [← is.K]; exact pi_enumT (is.gl hg) (by rw [is.mg]; exact hm) (pt X is) (hs _), fun fx Z H ρ σ ex w r e x Rr k => ?_⟩
  show t σ H fun vs H1 => ∃ a xs, vs = [.ref a] ∧ SqT g.K H1 a xs ∧ Rr (IteT g.K a) H1
  refine sa_run s w e x fun ds ρ1 vs Z1 H1 e1 m1 r1 x1 => ?_
  obtain ⟨d', h1, h2⟩ := of_some e1
  unfold oEnumT at h1
  split at h1
  · rename_i d
    cases q : sqT? d with
    | none => rw [q] at h1; cases h1
    | some xs =>
      rw [q] at h1
      cases h1
      cases r1 with
      | cons rd r1 =>
        cases r1
        obtain ⟨a', ws, rfl, hs', rs⟩ := rd.sqT (.refl _) q
        exact ⟨a', ws, rfl, m1.zh.sqT hs', k _ _ h2 _ Z1 H1 m1 (walk_enumT hs' rs)⟩
  · cases h1
end
end FL
set_option Elab.async false
set_option linter.all false
set_option maxRecDepth 100000
set_option maxHeartbeats 4000000
/-! S19: zip of a list and a tuple -/
namespace FL
open PySem PySem.Spec PyProof.Rows L2
def ItzM (K : PySem.W.Frag) (a b : Addr) : It :=
  ⟨fun i H => ∃ (xs ys : List V) (x y : V), SqL K H a xs ∧ SqT K H b ys ∧ xs[i]? = some x ∧ ys[i]? = some y,
    fun i H v H' => ∃ T x y, v = .ref T ∧ H T = none ∧ H' = upd H T (.tup [x, y]) ∧ (∀ xs, SqL K H a xs → xs[i]? = some x) ∧ ∀ ys, SqT K H b ys → ys[i]? = some y,
    fun i H => ∃ xs ys : List V, SqL K H a xs ∧ SqT K H b ys ∧ (xs.length ≤ i ∨ ys.length ≤ i) ∧ i ≤ xs.length ∧ i ≤ ys.length⟩
theorem turn_zipM {P : Program} {w : World} {K : PySem.W.Frag} {elts : List Expr} {kk : Nat} {tpos : Pos} {a b z TI TO i1 i2 : Addr} (S : ZipSep2 z TI TO i1 i2 [i1, a] [i2, b]) (hai : a ≠ i1) (hbi : b ≠ i2) :
    Turn P w K (.Tuple elts kk tpos) (ItzM K a b) [z, TI, TO, i1, i2] z (fun i h => IsZip h z TI TO .none ∧ IsTupOf2 h TI (.ref i1) (.ref i2) ∧ (∃ x y, IsTupOf2 h TO x y) ∧ h.IsListIter i1 a i ∧ h.IsTupleIter i2 b i) where
  mem := by simp
  obj := fun i h st c hc => by
    obtain ⟨hz, hTI, ⟨x, y, hTO⟩, ⟨o1, e1, _, d1⟩, ⟨o2, e2, _, d2⟩⟩ := st
    have e' : c = z ∨ c = TI ∨ c = TO ∨ c = i1 ∨ c = i2 := by simpa using hc
    rcases e' with q | q | q | q | q
    · rw [q]; exact ⟨_, hz, fun v q => nomatch q⟩
    · rw [q]; exact ⟨_, hTI, fun v q => nomatch q⟩
    · rw [q]; exact ⟨_, hTO, fun v q => nomatch q⟩
    · rw [q]; exact ⟨o1, e1, fun v q => by rw [d1] at q; cases q⟩
    · rw [q]; exact ⟨o2, e2, fun v q => by rw [d2] at q; cases q⟩
  keep := fun i h h' st k => by
    obtain ⟨hz, hTI, ⟨x, y, hTO⟩, h1, h2⟩ := st
    exact ⟨k z (by simp) _ hz, k TI (by simp) _ hTI, ⟨x, y, k TO (by simp) _ hTO⟩, h1.at fun o q => k i1 (by simp) o q, h2.at fun o q => k i2 (by simp) o q⟩
  item := by
    intro X hP hw hK hc i pins s σ H E I hf st hg
    subst hP hw hK
    obtain ⟨hz, hTI, ⟨x0, y0, hTO⟩, h1, h2⟩ := st
    obtain ⟨xs, ys, x, y, hqx, hqy, hx, hy⟩ := hg
    obtain ⟨its, rv, p, _⟩ := I.list hqx
    obtain ⟨its2, rv2, p2, _⟩ := I.tuple hqy
    obtain ⟨u, hu, ru⟩ := rv.get hx
    obtain ⟨u2, hu2, ru2⟩ := rv2.get hy
    have hzl : z < s.heap.objs.size := Heap.lt_size hz
    have D1 := Draws.list (prog := X.prog) (w := X.w) (A := X.A.in1) (I.ok.hd hc) i1 a hai its.toArray
    have D2 := Draws.tuple (prog := X.prog) (w := X.w) (A := X.A.in1) (I.ok.hd hc) i2 b hbi its2.toArray
    have hi1 : i < its.toArray.size := by
      have := (List.getElem?_eq_some_iff.mp hu).1
      simpa using this
    have hi2 : i < its2.toArray.size := by
      have := (List.getElem?_eq_some_iff.mp hu2).1
      simpa using this
    refine wpAny_pyNext_zipD2_item S D1 D2 hz hTI hTO ⟨h1, p.isList⟩ ⟨h2, p2⟩ hi1 hi2 fun v1 v2 h' tk P1 P2 z' TO' st1 st2 hT hsz hk => ?_
    have e1 : v1 = u := by
      have hP' : its.toArray[i]? = some v1 := P1
      have : its[i]? = some v1 := by simpa using hP'
      rw [hu] at this
      exact (Option.some.inj this).symm
    have e2 : v2 = u2 := by
      have hP' : its2.toArray[i]? = some v2 := P2
      have : its2[i]? = some v2 := by simpa using hP'
      rw [hu2] at this
      exact (Option.some.inj this).symm
    subst e1 e2
    refine ⟨_, rfl, wpAny_letOwnedTupleGo_zip (s := { s with heap := h', toks := tk }) z' fun h'' z'' sb => ?_⟩
    have hT2 : h''.get? s.heap.objs.size = some { cls := .type "tuple", data := .seq #[v1, v2] } := (sb.2 _ (Nat.ne_of_gt hzl)).trans hT
    have new : ObjOk X.prog X.w (upd H s.heap.objs.size (.tup [x, y])) h'' s.heap.objs.size (.tup [x, y]) :=
      ⟨by show 2 ≤ sizeLine; decide, [v1, v2], .cons ru (.cons ru2 .nil), ⟨_, hT2, rfl, _, rfl⟩⟩
    have I1 : Inv X pins σ (upd H s.heap.objs.size (.tup [x, y])) { s with heap := h'', toks := tk } :=
      I.turnedNew (t' := tk) (ch := [z, TI, TO, i1, i2]) (fun c o hb q => (sb.2 c (fun q' => hb (by simp [q']))).trans (hk c o (fun q' => hb (by simp [q'])) (fun q' => hb (by simp [q'])) (fun q' => hb (by simp [q'])) (fun q' => hb (by simp [q'])) q)) hf (Nat.le_refl _) new
    refine ⟨.ref s.heap.objs.size, _, I1, rfl, ⟨_, x, y, rfl, I.hok.fresh (Nat.le_refl _), rfl, fun l hl => by rw [I.list_inj hl hqx]; exact hx, fun l hl => by rw [I.tuple_inj hl hqy]; exact hy⟩, ⟨z'', ?_, ⟨v1, v2, ?_⟩, ?_, ?_⟩, fun c hcm => ?_⟩
    · exact (sb.2 _ S.TIz).trans (hk _ _ S.TIz S.TITO S.TIi1 S.TIi2 hTI)
    · exact (sb.2 _ S.TOz).trans TO'
    · exact st1.1.at fun o q => (sb.2 _ (fun e => S.zf1 (by rw [← e]; simp))).trans q
    · exact st2.1.at fun o q => (sb.2 _ (fun e => S.zf2 (by rw [← e]; simp))).trans q
    · have hlt : c < s.heap.objs.size := by
        have e' : c = z ∨ c = TI ∨ c = TO ∨ c = i1 ∨ c = i2 := by simpa using hcm
        rcases e' with q | q | q | q | q
        · rw [q]; exact hzl
        · rw [q]; exact Heap.lt_size hTI
        · rw [q]; exact Heap.lt_size hTO
        · rw [q]; obtain ⟨_, e1, _⟩ := h1; exact Heap.lt_size e1
        · rw [q]; obtain ⟨_, e2, _⟩ := h2; exact Heap.lt_size e2
      rw [upd_ne (Nat.ne_of_lt hlt)]
      exact (hf c hcm).1
  done := by
    intro X hP hw hK hc i pins s σ H E I hf st hg
    subst hP hw hK
    obtain ⟨hz, hTI, ⟨x0, y0, hTO⟩, h1, h2⟩ := st
    obtain ⟨xs, ys, hqx, hqy, hend, hle1, hle2⟩ := hg
    obtain ⟨its, rv, p, _⟩ := I.list hqx
    obtain ⟨its2, rv2, p2, _⟩ := I.tuple hqy
    have l1 := rv.length
    have l2 := rv2.length
    have D1 := Draws.list (prog := X.prog) (w := X.w) (A := X.A.in1) (I.ok.hd hc) i1 a hai its.toArray
    have D2 := Draws.tuple (prog := X.prog) (w := X.w) (A := X.A.in1) (I.ok.hd hc) i2 b hbi its2.toArray
    refine wpAny_pyNext_zipD2_end S D1 D2 hz hTI hTO ⟨h1, p.isList⟩ ⟨h2, p2⟩ (by simp; omega) (by simp; omega) (by simp; omega) fun h' tk hk => ⟨rfl, I.turnedL (t' := tk) (ch := [z, TI, TO, i1, i2]) (fun c o hb q =>
      hk c o (fun q' => hb (by simp [q'])) (fun q' => hb (by simp [q'])) (fun q' => hb (by simp [q'])) (fun q' => hb (by simp [q'])) q) hf⟩
  self := fun A i s Q E st h => wpAny_pyIter_zip st.1 h
def iZipM (K : PySem.W.Frag) (ta : TA) : TI := fun σ H R => ta σ H fun vs H1 => ∃ a b xs ys, vs = [.ref a, .ref b] ∧ SqL K H1 a xs ∧ SqT K H1 b ys ∧ R (ItzM K a b) H1
theorem zip_sep {n a b : Nat} (ha : a < n) (hb : b < n) : ZipSep2 (n + 4) (n + 2) (n + 3) n (n + 1) [n, a] [n + 1, b] := by
  have h1 : n + 4 ≠ a := by omega
  have h2 : n + 3 ≠ a := by omega
  have h3 : n + 4 ≠ b := by omega
  have h4 : n + 3 ≠ b := by omega
  have h5 : n ≠ b := by omega
  have h6 : n + 1 ≠ a := by omega
  constructor <;> simp [h1, h2, h3, h4, h5, h6]
theorem pi_zipM {X : Cx} {e e2 : Expr} {ta : TA} {p pos tpos : Pos} {elts : List Expr} {kk : Nat} (hg : Gl X "zip") (hm : X.mg "zip" = none) (ha : PA X [e, e2] ta)
    (hs : starEach [e, e2] X.env = (false, eval e X.env) :: starEach [e2] X.env := by rfl) (hpl : (backTo pos (starEach [e2] X.env)).any (·.1) = false := by rfl) :
    PI X (.Tuple elts kk tpos) (.Call (.Name "zip" p) [e, e2] [] pos) (iZipM X.K ta) := by
  refine ⟨fun pins s σ H R I h => ?_⟩
  refine Call_ (ld_blt I hg hm PyProof.Rows.boot_zip (PyProof.Rows.callWith_type1 (thn (ha.run pos pins s σ H _ I h) fun us s1 ⟨vs, H1, I1, r1, q1⟩ => ?_) hs hpl))
  obtain ⟨a, b, xs, ys, ex, hqx, hqy, q⟩ := q1
  subst ex
  cases r1 with
  | cons r rr =>
    cases rr with
    | cons r' rr =>
      cases rr
      cases r
      cases r'
      have fresh5 : ∀ c, c ∈ [s1.heap.objs.size + 4, s1.heap.objs.size + 2, s1.heap.objs.size + 3, s1.heap.objs.size, s1.heap.objs.size + 1] → FpOk X pins H1 c := fun c hcm => by
        have e' : c = s1.heap.objs.size + 4 ∨ c = s1.heap.objs.size + 2 ∨ c = s1.heap.objs.size + 3 ∨ c = s1.heap.objs.size ∨ c = s1.heap.objs.size + 1 := by simpa using hcm
        have hle : s1.heap.objs.size ≤ c := by
          rcases e' with z | z | z | z | z
          · rw [z]; exact Nat.le_add_right _ _
          · rw [z]; exact Nat.le_add_right _ _
          · rw [z]; exact Nat.le_add_right _ _
          · rw [z]; exact Nat.le_refl _
          · rw [z]; exact Nat.le_add_right _ _
        exact I1.fpOk hle (I1.hok.fresh hle)
      obtain ⟨its, rv, p1, _⟩ := I1.list hqx
      obtain ⟨its2, rv2, p2, _⟩ := I1.tuple hqy
      obtain ⟨o2, ho2, _⟩ := id p2
      have hal := p1.lt
      have hbl := Heap.lt_size ho2
      refine zip_begins2 (begins_list a its.toArray) (begins_tuple b its2.toArray) p1.isList (show s1.heap.IsTuple b its2.toArray from p2) fun h' hz hTI hTO h1 h2 hsz hk => wpAny_pyIter_zip hz ?_
      have I2 : Inv X pins σ H1 { s1 with heap := h' } := I1.kept (t' := s1.toks) hk
      exact ⟨s1.heap.objs.size + 4, [s1.heap.objs.size + 4, s1.heap.objs.size + 2, s1.heap.objs.size + 3, s1.heap.objs.size, s1.heap.objs.size + 1], _, _, H1, rfl, I2, turn_zipM (zip_sep hal hbl) (Nat.ne_of_lt hal) (Nat.ne_of_lt (Nat.lt_succ_of_lt hbl)), ⟨hz, hTI, ⟨_, _, hTO⟩, ⟨_, h1, rfl, rfl⟩, ⟨_, h2, rfl, rfl⟩⟩, fresh5, q⟩
section
variable {g : Gm} {fx : Fx} {Z Z' H H' : Hp} {ρ ρ1 : Rho} {σ : L2.St} {ex : List Addr}
variable {e a b : Expr} {fs : F (List D)} {pos p tpos : Pos} {elts : List Expr} {kk : Nat}
theorem walk_zipM {K : PySem.W.Frag} {a b : Addr} {vs us : List V} {xs ys : List D} (h1 : SqL K Z a vs) (r1 : Reps K Z vs xs) (h2 : SqT K Z b us) (r2 : Reps K Z us ys) : Walk K (ItzM K a b) Z (zipD xs ys) := by
  have l1 := r1.length
  have l2 := r2.length
  have lz : (zipD xs ys).length = min xs.length ys.length := by simp [zipD]
  refine ⟨fun i Z' H' z zh hi => ⟨vs, us, zh.sqL (z.sqL h1), zh.sqT (z.sqT h2), by omega, by omega, by omega⟩, fun i d hd Z' H' z zh => ?_, fun i d hd Z' H' x H'' z zh y => ?_⟩
  · have hlt := (List.getElem?_eq_some_iff.mp hd).1
    exact ⟨vs, us, _, _, zh.sqL (z.sqL h1), zh.sqT (z.sqT h2), List.getElem?_eq_getElem (by omega), List.getElem?_eq_getElem (by omega)⟩
  · obtain ⟨T, u, v, rfl, hT, rfl, y1, y2⟩ := y
    have e1 := y1 vs (zh.sqL (z.sqL h1))
    have e2 := y2 us (zh.sqT (z.sqT h2))
    obtain ⟨dx, q1, q2⟩ := r1.getV e1
    obtain ⟨dy, q3, q4⟩ := r2.getV e2
    have : d = .tup [dx, dy] := by
      unfold zipD at hd
      rw [List.getElem?_zipWith, q1, q3] at hd
      simpa using hd.symm
    subst this
    have gd := Gr.data (o := .tup [u, v]) zh hT
    exact ⟨_, gd, .tup upd_same (.cons ((q2.mono z).mono gd.z) (.one ((q4.mono z).mono gd.z)))⟩
def oZipM : List D → Option (List D)
  | [x, y] => match sqL? x, sqT? y with
    | some xs, some ys => some (zipD xs ys)
    | _, _ => none
  | _ => none
theorem si_zipM (hg : g.sc.names.lookup ("zip" : Str) = some .globalImplicit) (hm : g.mg "zip" = none) (ha : SA g [a, b] fs) (hs : ∀ env, starEach [a, b] env = (false, eval a env) :: starEach [b] env := by intro _; rfl) (hs2 : ∀ env, ((backTo pos (starEach [b] env)).any (·.1)) = false := by intro _; rfl) :
    SI g (.Tuple elts kk tpos) (.Call (.Name "zip" p) [a, b] [] pos) (fIt oZipM fs) := by
  obtain ⟨t, pt, s⟩ := ha
  refine ⟨iZipM g.K t, fun X is => by rw [← is.K]; exact pi_zipM (is.gl hg) (by rw [is.mg]; exact hm) (pt X is) (hs _) (hs2 _), fun fx Z H ρ σ ex w r e x Rr k => ?_⟩
  show t σ H fun vs H1 => ∃ a b xs ys, vs = [.ref a, .ref b] ∧ SqL g.K H1 a xs ∧ SqT g.K H1 b ys ∧ Rr (ItzM g.K a b) H1
  refine sa_run s w e x fun ds ρ1 vs Z1 H1 e1 m1 r1 x1 => ?_
  obtain ⟨d', h1, h2⟩ := of_some e1
  unfold oZipM at h1
  split at h1
  case h_2 => cases h1
  split at h1
  case h_2 => cases h1
  rename_i xs ys q1 q2
  cases h1
  cases r1 with
  | cons ra r1 =>
    cases r1 with
    | cons rb r1 =>
      cases r1
      obtain ⟨a', us, rfl, hs1, rs1⟩ := ra.sqL (.refl _) q1
      obtain ⟨b', us2, rfl, hs2', rs2⟩ := rb.sqT (.refl _) q2
      exact ⟨a', b', us, us2, rfl, m1.zh.sqL hs1, m1.zh.sqT hs2', k _ _ h2 _ Z1 H1 m1 (walk_zipM hs1 rs1 hs2' rs2)⟩
end
end FL
set_option Elab.async false
set_option linter.all false
set_option maxRecDepth 100000
set_option maxHeartbeats 2000000
/-! S20: repr of a bool; is True; an own ==; len(set(tuples)); a locked dict counted, listed -/
namespace FL
open PySem PySem.Spec PyProof.Rows L2
/-! ### repr of a bool -/
def rReprB : List V → Hp → VK → Prop := fun xs H Q => ∃ b : Bool, xs = [.bl b] ∧ Q (.str (if b then "True" else "False")) H
theorem cr_reprB {X : Cx} : CallR X (.builtin "repr") rReprB := by
  rintro pins s σ H xs us Q I r ⟨b, rfl, q⟩
  obtain ⟨u, rfl, ru⟩ := Vals.one r
  cases ru
  refine PySem.P.repr_of_bool ⟨.str _, H, I.tok _, ⟨_, rfl⟩, ?_⟩
  cases b <;> exact q
def oReprB : List D → Option D
  | [.bl b] => some (.str (if b then "True" else "False"))
  | _ => none
theorem cad_reprB {K : PySem.W.Frag} : CaD K rReprB oReprB := by
  intro Z H xs ds d z rs e Q k
  unfold oReprB at e
  split at e
  · cases e
    cases rs with
    | cons r rs =>
      cases rs
      cases r
      exact ⟨_, rfl, k.now z (.str _)⟩
  · cases e
theorem bi_reprB {g : Gm} : Bi g "repr" rReprB oReprB := ⟨fun X is => cr_reprB, cad_reprB⟩
/-! ### is True -/
def oIsB (x y : D) : Option D := match x, y with
  | .bl a, .bl b => some (.bl (decide (a = b)))
  | _, _ => none
theorem opd_isB {K : PySem.W.Frag} : OpD K rIsB oIsB := by
  intro Z H x y dx dy d z rx ry e Q k
  unfold oIsB at e
  split at e
  · cases e
    cases rx
    cases ry
    exact ⟨_, _, rfl, rfl, k.now z (.bl _)⟩
  · cases e
theorem co_isB {g : Gm} : Co g .Is rIsB oIsB := ⟨fun X is => op_isBl, opd_isB⟩
/-! ### an own == -/
def rEqO (K : PySem.W.Frag) (C : Addr) (sp : Sp) (E : XK) : R2 := fun x y H Q => ∃ a b dx dy fs gs, x = V.ref a ∧ y = V.ref b ∧ H a = some (.ins C dx fs) ∧ H b = some (.ins C dy gs) ∧ sp [x, y] H (fun v H' => (∃ r, v = .bl r) ∧ Q v H') E
theorem op_eqO {X : Cx} {n : Nat} {C f : Addr} {CX : CXT} {fd : FuncData} {ps : List Str} {sp : Sp} {E : XK} (F : FnOk X.prog X.w X.K X.mg X.base CX n f fd ps sp)
    (hs : PySem.W.findIn X.K (.ref C) "__eq__" = some (some (.ref f))) (hf : PySem.W.isFn X.K (.ref f) = true) (hb : Binds X.K fd ps []) (hx : Passes CX X E) (hr : Room n X.A) : OpR X (compareOp .Eq) (rEqO X.K C sp E) := by
  intro pins s σ H x y v u Q I rx ry h
  obtain ⟨a, b, dx, dy, fs, gs, rfl, rfl, ha, hb', hsp⟩ := h
  show wpAny (model X.prog X.w) X.A (richCompare .Eq v u) (EP X pins σ Q) X.xe s
  cases rx
  cases ry
  obtain ⟨mA, J, _⟩ := ins_get I.hok ha
  obtain ⟨mB, J', _⟩ := ins_get I.hok hb'
  obtain ⟨od, J, _⟩ := J.look
  obtain ⟨od', J', _⟩ := J'.look
  obtain ⟨m, hF⟩ := I.fr
  refine PySem.W.cmp_K (op := .Eq) (tb := .ref C) hr.units0 hF I.ok.mod.kin J J'.type (by simp [PySem.W.notFirst]) hs hf ?_
  have e0 : Env0 X.prog X.w X.K X.mg X.base X.A X.stack s H := I.env0
  have hl := F.len _ _ _ _ hsp
  have r2 : Vals [V.ref a, V.ref b] [Value.ref a, Value.ref b] := .cons rfl (.cons rfl .nil)
  refine wpAny_call (codeAny_mono (F.run X.A X.stack s H ⟨[.ref a, .ref b], []⟩ [.ref a, .ref b] [.ref a, .ref b] _ _ hr e0 (by
    have := hb s [.ref a, .ref b] I.kIn (by simpa using hl)
    simpa using this) r2 hsp) fun r s' hq => ?_)
  cases r with
  | error e => exact hx pins σ H s e s' I hq
  | ok fl =>
    cases fl with
    | ret w =>
      obtain ⟨z, H', I', rz, ⟨r, ez⟩, q⟩ := I.after hq
      subst ez
      cases rz
      exact ⟨.bl r, H', I', rfl, q⟩
    | next => exact False.elim hq
    | brk => exact False.elim hq
    | cont => exact False.elim hq
/-- == of two objects of the class cn, by its own __eq__ -/
def oEqO (cn : Str) (Fn : List D → Option RP) (x y : D) : Option D := if isOb cn x = true ∧ isOb cn y = true then (match Fn [x, y] with
  | some (.ret (.va (.bl b))) => some (.bl b)
  | _ => none) else none
theorem opd_eqO {K : PySem.W.Frag} {cn : Str} {Fn : List D → Option RP} {E : XK} : OpD K (rEqO K (He.ga K cn) (spP K Fn) E) (oEqO cn Fn) := by
  intro Z H x y dx dy d z rx ry e Q k
  unfold oEqO at e
  split at e
  case isFalse => cases e
  rename_i hb
  split at e
  case h_2 => cases e
  rename_i b hf
  cases e
  obtain ⟨hx, hy⟩ := hb
  have rx0 := rx
  have ry0 := ry
  cases rx with
  | obj h1 _ _ =>
    have e1 := of_decide_eq_true hx
    subst e1
    cases ry with
    | obj h2 _ _ =>
      have e2 := of_decide_eq_true hy
      subst e2
      refine ⟨_, _, _, _, _, _, rfl, rfl, z _ _ h1, z _ _ h2, Z, [_, _], _, z, .cons rx0 (.one ry0), hf, fun v Z' H' fp c rw' => ?_⟩
      cases rw' with
      | va rv =>
        cases rv
        refine ⟨⟨b, rfl⟩, k _ Z' H' ⟨c.z, fun a o h => c.kp a o h (by simp), c.zh, c.nw⟩ (.bl b)⟩
    | _ => cases hy
  | _ => cases hx
theorem co_eqO {g : Gm} {cn : Str} {k : Nat} {Fn : List D → Option RP} (h : CalE g k cn (spP g.K Fn)) (hk : k ≤ g.k) : Co g .Eq (rEqO g.K (He.ga g.K cn) (spP g.K Fn) g.E) (oEqO cn Fn) := by
  refine ⟨fun X is => ?_, opd_eqO⟩
  obtain ⟨f, fd, ps, F, hs, hf, hb, _⟩ := h
  have pass := is.pass
  obtain ⟨h1, h2, h3, h4, h5, _, _, _, _, hr, _⟩ := id is
  rw [← h1, ← h2, ← h3, ← h4, ← h5] at F
  rw [← h3] at hs hf hb ⊢
  rw [← h1, ← h2] at pass
  exact op_eqO F hs hf hb pass (hr.mono hk)
/-! ### len(set(xs)), xs a list of tuples of ints, all different -/
theorem intsInv : ∀ {ds : List D} {ns : List Int}, ints? ds = some ns → ds = ns.map .int
  | [], _, e => by cases e; rfl
  | d :: ds, ns, e => by
    cases d with
    | int n =>
      simp only [ints?, Option.map_eq_some_iff] at e
      obtain ⟨ms, e1, rfl⟩ := e
      rw [intsInv e1]
      rfl
    | _ => simp [ints?] at e
def tupsI? : List D → Option (List (List Int))
  | [] => some []
  | .tup xs :: ds => match ints? xs, tupsI? ds with
    | some k, some ks => some (k :: ks)
    | _, _ => none
  | _ => none
theorem tupsI_reps {K : PySem.W.Frag} {Z : Hp} : ∀ {vs : List V} {ds : List D} {ks : List (List Int)}, Reps K Z vs ds → tupsI? ds = some ks → ∃ L : List (Addr × List Int), vs = L.map (fun p => V.ref p.1) ∧ L.map (·.2) = ks ∧ ∀ p ∈ L, SqT K Z p.1 (p.2.map V.int)
  | _, _, _, .nil, e => by
    cases e
    exact ⟨[], rfl, rfl, fun _ h => by cases h⟩
  | _, _, _, .cons h r, e => by
    cases h with
    | tup hz hr =>
      unfold tupsI? at e
      split at e
      · rename_i k ks e1 e2
        cases e
        obtain ⟨L, h1, h2, h3⟩ := tupsI_reps r e2
        have hk := intsInv e1
        refine ⟨(_, k) :: L, by rw [h1]; rfl, by rw [List.map_cons, h2], fun p hp => ?_⟩
        rcases List.mem_cons.mp hp with rfl | hp
        · rw [hk] at hr
          have := hr.ints_inv
          subst this
          exact .of hz
        · exact h3 p hp
      · cases e
    | _ => simp [tupsI?] at e
theorem vals_len {L : List (Addr × List Int)} {ks : List (Addr × List Int)} (nd : (L.map (·.2)).Nodup) (sub : ∀ p ∈ L, p ∈ ks) (cov : ∀ p ∈ ks, p.2 ∈ L.map (·.2)) (nk : (ks.map (·.2)).Nodup) : L.length = ks.length := by
  have go : ∀ {l m : List (List Int)}, l.Nodup → (∀ x ∈ l, x ∈ m) → l.length ≤ m.length := by
    intro l
    induction l with
    | nil => intro m _ _; simp
    | cons x xs ih =>
      intro m nd h
      rw [List.nodup_cons] at nd
      have hx : x ∈ m := h x List.mem_cons_self
      have := ih (m := m.erase x) nd.2 fun y hy => (List.mem_erase_of_ne (by rintro rfl; exact nd.1 hy)).mpr (h y (List.mem_cons_of_mem _ hy))
      rw [List.length_erase_of_mem hx] at this
      have := List.length_pos_of_mem hx
      simp only [List.length_cons]
      omega
  have h1 := go nd fun x hx => by
    obtain ⟨p, hp, rfl⟩ := List.mem_map.mp hx
    exact List.mem_map_of_mem (f := fun p : Addr × List Int => p.2) (sub p hp)
  have h2 := go nk fun x hx => by
    obtain ⟨p, hp, rfl⟩ := List.mem_map.mp hx
    exact cov p hp
  simp only [List.length_map] at h1 h2
  omega
def rLenTO (P : Program) (w : World) : List V → Hp → VK → Prop := fun xs H Q => ∃ (a : Addr) (L : List (Addr × List Int)), xs = [.ref a] ∧ H a = some (SetTO P w a L) ∧ ((L.map (·.2)).Nodup → Q (.int L.length) H)
theorem cr_lenTO {X : Cx} : CallR X (.builtin "len") (rLenTO X.prog X.w) := by
  rintro pins s σ H xs us Q I r ⟨a, L, rfl, ha, q⟩
  obtain ⟨u, rfl, ru⟩ := Vals.one r
  cases ru
  have R : SetT0 X.prog X.w s.heap a L := (I.hok a _ ha).1
  obtain ⟨es, ep, t, ⟨o, ho, hex, hd⟩, hrows, htab, nd, _, _, hroom, hfew⟩ := R.ex
  have hsl : es.size = L.length := by
    have h := congrArg List.length hrows
    unfold rowsOf at h
    rw [Array.length_toList, List.length_map] at h
    exact h
  have hf : t.fits es.size = true := by
    have h1 := htab.sz
    rw [List.length_map] at h1
    unfold SetTable.fits SetTable.fill
    rw [htab.dm, Bool.and_eq_true, beq_iff_eq, decide_eq_true_eq]
    show t.place.size = es.size ∧ t.place.size + 0 ≤ t.mask
    omega
  refine call_len_set ho hex hd hf ?_ ⟨.int L.length, H, Inv.tok I _, ⟨s.toks + 1, ?_⟩, q nd⟩
  · omega
  · rw [hsl]
def lenSetT? (d : D) : Option D := (sqL? d).bind fun ds => (tupsI? ds).bind fun ks => if ks.length < 64 ∧ ks.Nodup then some (.int (ks.length : Nat)) else none
def fLenSetT (fa : F D) : F D := fa.bind fun d => F.of (lenSetT? d)
section
variable {g : Gm} {fx : Fx} {Z Z' H H' : Hp} {ρ ρ1 : Rho} {σ : L2.St} {ex : List Addr}
variable {a : Expr} {fa : F D} {pos p p2 q : Pos}
theorem se_lenSetT (hm : g.mg "len" = none) (hm2 : g.mg "set" = none) (ha : SE g a fa) (hg : g.sc.names.lookup ("len" : Str) = some .globalImplicit := by rfl) (hg2 : g.sc.names.lookup ("set" : Str) = some .globalImplicit := by rfl)
    (hs : ∀ env, starEach [a] env = (false, eval a env) :: starEach [] env := by intro _; rfl)
    (hs2 : ∀ env, starEach [.Call (.Name "set" p2) [a] [] q] env = (false, eval (.Call (.Name "set" p2) [a] [] q) env) :: starEach [] env := by intro _; rfl) :
    SE g (.Call (.Name "len" p) [.Call (.Name "set" p2) [a] [] q] [] pos) (fLenSetT fa) := by
  obtain ⟨ta, pa, sa⟩ := ha
  refine ⟨tCB (rLenTO g.P g.w) (tCons (tCB (rSetOfT g.K g.P g.w) (tCons ta tNil)) tNil), fun X is => ?_, fun fx Z H ρ σ ex w r e x Q k => ?_⟩
  · rw [← is.prog, ← is.w, ← is.K]
    exact pe_callB cr_lenTO (is.gl hg) (by rw [is.mg]; exact hm) rfl (pa_cons (pe_callTy (cr_setOfT is.calm is.hu64) (is.gl hg2) (by rw [is.mg]; exact hm2) PyProof.Rows.boot_set (pa_cons (pa X is) pa_nil (hs _)) (by decide) (by decide) (hs _) rfl) pa_nil (hs2 _)) (by decide) (by decide) (hs2 _) rfl
  · show ta σ H fun y H1 => rSetOfT g.K g.P g.w [y] H1 fun v H2 => rLenTO g.P g.w [v] H2 Q
    refine se_run sa w e x fun d ρ1 v Z1 H1 e1 m1 r1 x1 => ?_
    obtain ⟨d', h1, h2⟩ := of_some e1
    unfold lenSetT? at h1
    cases q1 : sqL? d with
    | none => rw [q1] at h1; cases h1
    | some ds =>
      rw [q1] at h1
      cases q2 : tupsI? ds with
      | none => rw [Option.bind_some, q2] at h1; cases h1
      | some ks =>
        rw [Option.bind_some, q2, Option.bind_some] at h1
        split at h1
        case isFalse => cases h1
        rename_i hc
        cases h1
        obtain ⟨l, vs, rfl, hl, rs⟩ := r1.sqL (.refl _) q1
        obtain ⟨L, rfl, e2, hL⟩ := tupsI_reps rs q2
        have el : L.length = ks.length := by rw [← e2, List.length_map]
        refine ⟨l, L, rfl, m1.zh.sqL hl, fun p hp => m1.zh.sqT (hL p hp), by omega, fun b L' hb sub cov => ⟨b, L', rfl, upd_same, fun nd => ?_⟩⟩
        have := vals_len nd sub cov (by rw [e2]; exact hc.2)
        rw [this, el]
        exact k _ _ h2 _ Z1 _ (m1.gr (Gr.junk m1.zh hb)) (.int _)
end
end FL
set_option Elab.async false
set_option linter.all false
set_option maxRecDepth 100000
set_option maxHeartbeats 2000000
/-! S21: [elt for x in xs if .. for y in ys if ..] -/
namespace FL
open PySem PySem.Spec PyProof.Rows L2
def lc2Loop (tg : D → Rho → Option Rho) (gt : F Bool) (fi1 : F (List D)) (tg1 : D → Rho → Option Rho) (gt1 : F Bool) (fe : F D) (vs vs1 : List Nat) : List D → List D → Rho → Option (List D × Rho)
  | [], acc, ρ => some (acc, ρ)
  | x :: xs, acc, ρ => match tg x (wipeR ρ vs) with
    | none => none
    | some ρ1 => match gt ρ1 with
      | some (.ok true ρ2) => (match fi1 ρ2 with
        | some (.ok ds1 ρ3) => if acc.length + ds1.length ≤ sizeLine then (match lcLoop tg1 gt1 fe vs1 ds1 acc ρ3 with
          | some (acc', ρ4) => lc2Loop tg gt fi1 tg1 gt1 fe vs vs1 xs acc' (wipeR ρ4 vs)
          | none => none) else none
        | _ => none)
      | some (.ok false ρ2) => lc2Loop tg gt fi1 tg1 gt1 fe vs vs1 xs acc (wipeR ρ2 vs)
      | _ => none
def fLc2 (fi : F (List D)) (tg : D → Rho → Option Rho) (gt : F Bool) (fi1 : F (List D)) (tg1 : D → Rho → Option Rho) (gt1 : F Bool) (fe : F D) (vs vs1 : List Nat) : F W := fi.bind fun ds ρ =>
  (lc2Loop tg gt fi1 tg1 gt1 fe vs vs1 ds [] ρ).map fun p => .ok (.ls p.1) p.2
section
variable {g : Gm} {fx : Fx} {Z Z' H H' : Hp} {ρ ρ1 : Rho} {σ : L2.St} {ex : List Addr} {α β : Type}
variable {e a b c tg : Expr} {fa fb fc : F D} {pos p : Pos} {es : List Expr} {fs : F (List D)} {ga gb : F Bool} {rest : List Expr} {x : Str} {k n : Nat}
theorem lcIn_core {D : Addr} {J : It} {tgt : TG} {tt : TT} {te : TE} {vs : List Nat} {ds acc0 out : List FL.D} {vacc0 : List V} {ρo : Rho} {ftg : FL.D → Rho → Option Rho} {gt : F Bool} {fe : F FL.D} {js : List Nat} {Nx : Hp → Prop} {Z1 H1 : Hp}
    (sg : ∀ fx Z H ρ σ ex d v ρ', Wd g.K fx Z H ρ σ ex → Rep g.K Z v d → ftg d ρ = some ρ' → ∀ Q, (∀ σ', Wd g.K fx Z H ρ' σ' ex → σ'.length = σ.length → (∀ i, i ∉ js → σ'[i]? = σ[i]?) → Q σ' H) → tgt v σ H Q)
    (hj : ∀ j ∈ js, j ∈ vs) (st : SemT g tt gt) (se : SemE g te fe) (wk : Walk g.K J Z1 ds)
    (w : Wd g.K fx Z1 H1 ρ1 σ ([D] ++ ex)) (hD : H1 D = some (.lst vacc0)) (r0 : Reps g.K Z1 vacc0 acc0) (hl : lcLoop ftg gt fe vs ds acc0 ρ1 = some (out, ρo)) (hsz : acc0.length + ds.length ≤ sizeLine)
    (k : ∀ Z' H' vacc, Zle Z1 Z' → Wd g.K fx Z' H' ρo σ ([D] ++ ex) → (∀ a ∈ ex, H' a = H1 a) → H' D = some (.lst vacc) → Reps g.K Z' vacc out → Nx H') :
    ∃ W1 : Nat → Nat → Hp → Prop, (∃ m, W1 0 m H1) ∧ ∀ j k H, W1 j k H →
      (J.stop j H ∧ Nx H) ∨ (J.go j H ∧ ∃ Nx1 : Hp → Prop, (∀ H', Nx1 H' → ∃ k', k' < k ∧ W1 (j + 1) k' H') ∧ ∀ x H', J.yld j H x H' → tgt x (L2.wipe σ vs) H' fun σ3 H5 => L2.wipe σ3 vs = L2.wipe σ vs ∧ tt σ3 H5 fun b H6 =>
        if b = true then te σ3 H6 fun y H7 => ∃ acc, H7 D = some (.lst acc) ∧ acc.length < sizeLine ∧ Nx1 (upd H7 D (.lst (acc ++ [y]))) else Nx1 H6) := by
  refine ⟨fun i m H' => m = ds.length - i ∧ i ≤ ds.length ∧ ∃ Z' ρ' acc vacc, lcLoop ftg gt fe vs (ds.drop i) acc ρ' = some (out, ρo) ∧ Zle Z1 Z' ∧ Wd g.K fx Z' H' ρ' σ ([D] ++ ex) ∧ (∀ a ∈ ex, H' a = H1 a) ∧ H' D = some (.lst vacc) ∧ Reps g.K Z' vacc acc ∧ acc.length ≤ acc0.length + i,
    ⟨ds.length, by simp, Nat.zero_le _, Z1, ρ1, acc0, vacc0, hl, .refl _, w, fun _ _ => rfl, hD, r0, by omega⟩, ?_⟩
  rintro i m H' ⟨rfl, hi, Z', ρ', acc, vacc, hlp, z1, w', f', hD', ra, la⟩
  by_cases hlt : i < ds.length
  case neg =>
    have ei : i = ds.length := by omega
    rw [ei, List.drop_length] at hlp
    cases hlp
    exact .inl ⟨wk.stop i Z' H' z1 w'.zh (by omega), k Z' H' vacc z1 w' f' hD' ra⟩
  case pos =>
    have hd : ds[i]? = some ds[i] := List.getElem?_eq_getElem hlt
    refine .inr ⟨wk.go i _ hd Z' H' z1 w'.zh, fun H'' => ds.length - (i + 1) < ds.length - i ∧ ∃ Z' ρ' acc vacc, lcLoop ftg gt fe vs (ds.drop (i + 1)) acc ρ' = some (out, ρo) ∧ Zle Z1 Z' ∧ Wd g.K fx Z' H'' ρ' σ ([D] ++ ex) ∧ (∀ a ∈ ex, H'' a = H1 a) ∧ H'' D = some (.lst vacc) ∧ Reps g.K Z' vacc acc ∧ acc.length ≤ acc0.length + (i + 1),
      fun H'' ⟨h1, h2⟩ => ⟨_, h1, rfl, hlt, h2⟩, fun v H2 y => ?_⟩
    obtain ⟨Z2, g2, rv⟩ := wk.yld i _ hd Z' H' v H2 z1 w'.zh y
    rw [List.drop_eq_getElem_cons hlt] at hlp
    unfold lcLoop at hlp
    have w2 := w'.gr g2
    have w2' : Wd g.K fx Z2 H2 (wipeR ρ' vs) (L2.wipe σ vs) ([D] ++ ex) := Wd.wipe w2 (wipe_length _ _) fun i hi => wipe_out hi
    have keepD : ∀ a ∈ [D] ++ ex, H2 a = H' a := fun a ha => by
      obtain ⟨fp, h⟩ := w'
      have n := h.th a (List.mem_append_right _ ha)
      cases q : H' a with
      | none => exact absurd q n
      | some o => exact g2.h a o q
    split at hlp
    case h_1 => cases hlp
    rename_i ρt ht
    refine sg fx Z2 H2 (wipeR ρ' vs) (L2.wipe σ vs) _ _ v ρt w2' rv ht _ fun σ2 w3 l3 f3 => ?_
    have hw : L2.wipe σ2 vs = L2.wipe σ vs := by
      rw [wipe_ext (σ := L2.wipe σ vs) (σ' := σ2) (vs := vs) l3 fun i hi => f3 i fun hh => hi (hj i hh)]
      exact wipe_ext (wipe_length _ _) fun i hi => wipe_out hi
    have back : ∀ i, i ∉ vs → σ[i]? = σ2[i]? := fun i hi => by
      rw [← wipe_out' (σ := σ) hi, ← hw, wipe_out' hi]
    have lback : σ.length = σ2.length := by rw [l3, wipe_length]
    refine ⟨hw, ?_⟩
    split at hlp
    · rename_i ρ2 hgt
      refine st fx Z2 H2 ρt σ2 _ w3 _ hgt (fun _ _ z => nomatch z) _ fun bb ρb zb Z3 H3 m3 => ?_
      cases zb
      rw [if_pos rfl]
      split at hlp
      · rename_i d ρ3 hfe
        refine se fx Z3 H3 ρ2 σ2 _ m3.wd _ hfe (fun _ _ z => nomatch z) _ fun dd ρd zd u Z4 H4 m4 ru => ?_
        cases zd
        have hD4 : H4 D = some (.lst vacc) := by rw [m4.fr D (by simp), m3.fr D (by simp), keepD D (by simp)]; exact hD'
        have lv := ra.length
        refine ⟨vacc, hD4, by omega, by omega, Z4, wipeR ρ3 vs, acc ++ [d], vacc ++ [u], hlp, ((z1.trans g2.z).trans m3.z).trans m4.z, ?_, ?_, upd_same, (ra.mono ((g2.z.trans m3.z).trans m4.z)).append (.one ru), by simp; omega⟩
        · exact Wd.wipe (Wd.updEx (a := D) (ex := ex) m4.wd).1 lback back
        · intro a ha
          rw [(Wd.updEx (a := D) (ex := ex) (o := .lst (vacc ++ [u])) m4.wd).2 a ha, m4.fr a (by simp [ha]), m3.fr a (by simp [ha]), keepD a (by simp [ha])]
          exact f' a ha
      · cases hlp
    · rename_i ρ2 hgt
      refine st fx Z2 H2 ρt σ2 _ w3 _ hgt (fun _ _ z => nomatch z) _ fun bb ρb zb Z3 H3 m3 => ?_
      cases zb
      rw [if_neg Bool.false_ne_true]
      refine ⟨by omega, Z3, wipeR ρ2 vs, acc, vacc, hlp, (z1.trans g2.z).trans m3.z, Wd.wipe m3.wd lback back, ?_, by rw [m3.fr D (by simp), keepD D (by simp)]; exact hD', ra.mono (g2.z.trans m3.z), by omega⟩
      intro a ha
      rw [m3.fr a (by simp [ha]), keepD a (by simp [ha])]
      exact f' a ha
    · cases hlp
theorem sem_lc2 {wi wi1 : TI} {tgt tgt1 : TG} {tt tt1 : TT} {te : TE} {scope : Scope} {vs vs1 : List Nat} {fi fi1 : F (List D)} {ftg ftg1 : D → Rho → Option Rho} {gt gt1 : F Bool} {fe : F D} {js js1 : List Nat} (si : SemI g wi fi)
    (sg : ∀ fx Z H ρ σ ex d v ρ', Wd (g.blk scope).K fx Z H ρ σ ex → Rep (g.blk scope).K Z v d → ftg d ρ = some ρ' → ∀ Q, (∀ σ', Wd (g.blk scope).K fx Z H ρ' σ' ex → σ'.length = σ.length → (∀ i, i ∉ js → σ'[i]? = σ[i]?) → Q σ' H) → tgt v σ H Q)
    (sg1 : ∀ fx Z H ρ σ ex d v ρ', Wd (g.blk scope).K fx Z H ρ σ ex → Rep (g.blk scope).K Z v d → ftg1 d ρ = some ρ' → ∀ Q, (∀ σ', Wd (g.blk scope).K fx Z H ρ' σ' ex → σ'.length = σ.length → (∀ i, i ∉ js1 → σ'[i]? = σ[i]?) → Q σ' H) → tgt1 v σ H Q)
    (hj : ∀ j ∈ js, j ∈ vs) (hj1 : ∀ j ∈ js1, j ∈ vs1) (st : SemT (g.blk scope) tt gt) (si1 : SemI (g.blk scope) wi1 fi1) (st1 : SemT (g.blk scope) tt1 gt1) (se : SemE (g.blk scope) te fe) : SemW g (tLc2 wi tgt tt wi1 tgt1 tt1 te vs vs1) (fLc2 fi ftg gt fi1 ftg1 gt1 fe vs vs1) := fun fx Z H ρ σ ex w r e x Q k => by
  show wi σ H fun J H1 => ∀ D, H1 D = none → ∃ W : Nat → Nat → Hp → Prop, (∃ m, W 0 m (upd H1 D (.lst []))) ∧ ∀ i m H, W i m H →
    (J.stop i H ∧ Q (.ref D) H) ∨ (J.go i H ∧ ∃ Nx : Hp → Prop, (∀ H', Nx H' → ∃ m', m' < m ∧ W (i + 1) m' H') ∧ ∀ x H', J.yld i H x H' → tgt x (L2.wipe σ vs) H' fun σ2 H2 => L2.wipe σ2 vs = L2.wipe σ vs ∧ tt σ2 H2 fun b H3 =>
      if b = true then wi1 σ2 H3 fun J1 H4 => ∃ W1 : Nat → Nat → Hp → Prop, (∃ m, W1 0 m H4) ∧ ∀ j k H, W1 j k H →
        (J1.stop j H ∧ Nx H) ∨ (J1.go j H ∧ ∃ Nx1 : Hp → Prop, (∀ H', Nx1 H' → ∃ k', k' < k ∧ W1 (j + 1) k' H') ∧ ∀ x H', J1.yld j H x H' → tgt1 x (L2.wipe σ2 vs1) H' fun σ3 H5 => L2.wipe σ3 vs1 = L2.wipe σ2 vs1 ∧ tt1 σ3 H5 fun b H6 =>
          if b = true then te σ3 H6 fun y H7 => ∃ acc, H7 D = some (.lst acc) ∧ acc.length < sizeLine ∧ Nx1 (upd H7 D (.lst (acc ++ [y]))) else Nx1 H6)
      else Nx H3)
  rcases bind_some e with ⟨ds, ρ1, e1, e2⟩ | ⟨xx, ρ', e1, e2⟩
  case inr =>
    subst e2
    exact si fx Z H ρ σ ex w _ e1 x.thru _ fun d ρ1 z => nomatch z
  refine si fx Z H ρ σ ex w _ e1 (fun _ _ z => nomatch z) _ fun ds' ρ1' z J Z1 H1 m1 wk D hD => ?_
  cases z
  cases hl : lc2Loop ftg gt fi1 ftg1 gt1 fe vs vs1 ds [] ρ1 with
  | none => rw [hl] at e2; cases e2
  | some out =>
  rw [hl] at e2
  obtain ⟨out, ρo⟩ := out
  cases e2
  obtain ⟨w1, f1⟩ := m1.new (o := .lst []) hD
  refine ⟨fun i m H' => m = ds.length - i ∧ i ≤ ds.length ∧ ∃ Z' ρ' acc vacc, lc2Loop ftg gt fi1 ftg1 gt1 fe vs vs1 (ds.drop i) acc ρ' = some (out, ρo) ∧ Zle Z1 Z' ∧ Wd g.K fx Z' H' ρ' σ ([D] ++ ex) ∧ (∀ a ∈ ex, H' a = H a) ∧ H' D = some (.lst vacc) ∧ Reps g.K Z' vacc acc,
    ⟨ds.length, by simp, Nat.zero_le _, Z1, ρ1, [], [], hl, .refl _, w1, f1, upd_same, .nil⟩, ?_⟩
  rintro i m H' ⟨rfl, hi, Z', ρ', acc, vacc, hlp, z1, w', f', hD', ra⟩
  by_cases hlt : i < ds.length
  case neg =>
    have ei : i = ds.length := by omega
    rw [ei, List.drop_length] at hlp
    cases hlp
    refine .inl ⟨wk.stop i Z' H' z1 w'.zh (by omega), ?_⟩
    exact k (.ls out) ρo rfl (.ref D) Z' H' [D] (m1.z.trans z1) w' f' (.ls hD' ra)
  case pos =>
    have hd : ds[i]? = some ds[i] := List.getElem?_eq_getElem hlt
    refine .inr ⟨wk.go i _ hd Z' H' z1 w'.zh, fun H'' => ds.length - (i + 1) < ds.length - i ∧ ∃ Z' ρ' acc vacc, lc2Loop ftg gt fi1 ftg1 gt1 fe vs vs1 (ds.drop (i + 1)) acc ρ' = some (out, ρo) ∧ Zle Z1 Z' ∧ Wd g.K fx Z' H'' ρ' σ ([D] ++ ex) ∧ (∀ a ∈ ex, H'' a = H a) ∧ H'' D = some (.lst vacc) ∧ Reps g.K Z' vacc acc,
      fun H'' ⟨h1, h2⟩ => ⟨_, h1, rfl, hlt, h2⟩, fun v H2 y => ?_⟩
    obtain ⟨Z2, g2, rv⟩ := wk.yld i _ hd Z' H' v H2 z1 w'.zh y
    rw [List.drop_eq_getElem_cons hlt] at hlp
    unfold lc2Loop at hlp
    have w2 := w'.gr g2
    have w2' : Wd g.K fx Z2 H2 (wipeR ρ' vs) (L2.wipe σ vs) ([D] ++ ex) := Wd.wipe w2 (wipe_length _ _) fun i hi => wipe_out hi
    have keepD : ∀ a ∈ [D] ++ ex, H2 a = H' a := fun a ha => by
      obtain ⟨fp, h⟩ := w'
      have n := h.th a (List.mem_append_right _ ha)
      cases q : H' a with
      | none => exact absurd q n
      | some o => exact g2.h a o q
    split at hlp
    case h_1 => cases hlp
    rename_i ρt ht
    refine sg fx Z2 H2 (wipeR ρ' vs) (L2.wipe σ vs) _ _ v ρt w2' rv ht _ fun σ2 w3 l3 f3 => ?_
    have hw : L2.wipe σ2 vs = L2.wipe σ vs := by
      rw [wipe_ext (σ := L2.wipe σ vs) (σ' := σ2) (vs := vs) l3 fun i hi => f3 i fun hh => hi (hj i hh)]
      exact wipe_ext (wipe_length _ _) fun i hi => wipe_out hi
    have back : ∀ i, i ∉ vs → σ[i]? = σ2[i]? := fun i hi => by
      rw [← wipe_out' (σ := σ) hi, ← hw, wipe_out' hi]
    have lback : σ.length = σ2.length := by rw [l3, wipe_length]
    refine ⟨hw, ?_⟩
    split at hlp
    · rename_i ρ2 hgt
      refine st fx Z2 H2 ρt σ2 _ w3 _ hgt (fun _ _ z => nomatch z) _ fun bb ρb zb Z3 H3 m3 => ?_
      cases zb
      rw [if_pos rfl]
      split at hlp
      case h_2 => cases hlp
      rename_i ds1 ρ3 hfi
      split at hlp
      case isFalse => cases hlp
      rename_i hsz
      split at hlp
      case h_2 => cases hlp
      rename_i acc' ρ4 hin
      refine si1 fx Z3 H3 ρ2 σ2 _ m3.wd _ hfi (fun _ _ z => nomatch z) _ fun dd ρd zd J1 Z4 H4 m4 wk1 => ?_
      cases zd
      have hD4 : H4 D = some (.lst vacc) := by rw [m4.fr D (by simp), m3.fr D (by simp), keepD D (by simp)]; exact hD'
      refine lcIn_core (g := g.blk scope) (D := D) (ex := ex) (js := js1) (acc0 := acc) (vacc0 := vacc) sg1 hj1 st1 se wk1 m4.wd hD4 (ra.mono ((g2.z.trans m3.z).trans m4.z)) hin hsz fun Z5 H5 vacc5 z5 w5 f5 hD5 r5 => ?_
      refine ⟨by omega, Z5, wipeR ρ4 vs, acc', vacc5, hlp, (((z1.trans g2.z).trans m3.z).trans m4.z).trans z5, Wd.wipe w5 lback back, ?_, hD5, r5⟩
      intro a ha
      rw [f5 a ha, m4.fr a (by simp [ha]), m3.fr a (by simp [ha]), keepD a (by simp [ha])]
      exact f' a ha
    · rename_i ρ2 hgt
      refine st fx Z2 H2 ρt σ2 _ w3 _ hgt (fun _ _ z => nomatch z) _ fun bb ρb zb Z3 H3 m3 => ?_
      cases zb
      rw [if_neg Bool.false_ne_true]
      refine ⟨by omega, Z3, wipeR ρ2 vs, acc, vacc, hlp, (z1.trans g2.z).trans m3.z, Wd.wipe m3.wd lback back, ?_, by rw [m3.fr D (by simp), keepD D (by simp)]; exact hD', ra.mono (g2.z.trans m3.z)⟩
      intro a ha
      rw [m3.fr a (by simp [ha]), keepD a (by simp [ha])]
      exact f' a ha
    · cases hlp
theorem sw_lc2 {iter iter1 tg1 elt : Expr} {ifs ifs1 : List Expr} {scope : Scope} {own : List (Str × Nat)} (vs1 : List Nat) {fi fi1 : F (List D)} {ftg ftg1 : D → Rho → Option Rho} {gt gt1 : F Bool} {fe : F D} {js js1 : List Nat} (hi : SI g tg iter fi) (ok : BlkOk g.N g.sc scope own) (hv : ∀ i ∈ vs1, i ∈ own.map (·.2))
    (hg : SG (g.blk scope) tg ftg js) (hj : ∀ j ∈ js, j ∈ own.map (·.2)) (ht : STs (g.blk scope) ifs gt) (hi1 : SI (g.blk scope) tg1 iter1 fi1) (hg1 : SG (g.blk scope) tg1 ftg1 js1) (hj1 : ∀ j ∈ js1, j ∈ vs1) (ht1 : STs (g.blk scope) ifs1 gt1) (he : SE (g.blk scope) elt fe) (hs : ∀ env x, foldedSetIterable iter env x = pure x := by intro _ _; rfl) (hs1 : ∀ env x, foldedSetIterable iter1 env x = pure x := by intro _ _; rfl) :
    SW g (.ListComp elt [⟨tg, iter, ifs, 0⟩, ⟨tg1, iter1, ifs1, 0⟩] scope pos) (fLc2 fi ftg gt fi1 ftg1 gt1 fe (own.map (·.2)) vs1) := by
  obtain ⟨wi, pi, si⟩ := hi
  obtain ⟨tgt, pg, sg⟩ := hg
  obtain ⟨tt, pt, st⟩ := ht
  obtain ⟨wi1, pi1, si1⟩ := hi1
  obtain ⟨tgt1, pg1, sg1⟩ := hg1
  obtain ⟨tt1, pt1, st1⟩ := ht1
  obtain ⟨te, pe, se⟩ := he
  refine ⟨tLc2 wi tgt tt wi1 tgt1 tt1 te (own.map (·.2)) vs1, fun X is => ?_, sem_lc2 si sg sg1 hj hj1 st si1 st1 se⟩
  exact pe_lc2 is.calm (by rw [is.N]; exact is.nd) (pi X is) (by rw [is.N, is.sc]; exact ok) hv (fun s H C cl fp => pg _ (is.blk scope s H cl C fp)) (fun s H C cl fp => pt _ (is.blk scope s H cl C fp)) (fun s H C cl fp => pi1 _ (is.blk scope s H cl C fp)) (fun s H C cl fp => pg1 _ (is.blk scope s H cl C fp)) (fun s H C cl fp => pt1 _ (is.blk scope s H cl C fp)) (fun s H C cl fp => pe _ (is.blk scope s H cl C fp)) (hs _) hs1
end
end FL
set_option Elab.async false
set_option linter.all false
set_option maxRecDepth 100000
set_option maxHeartbeats 2000000
/-! S22: isinstance of a locked dict of tuple keys; list(d) of one -/
namespace FL
open PySem PySem.Spec PyProof.Rows L2
def rIsiL (K : PySem.W.Frag) : List V → Hp → VK → Prop := fun xs H Q => ∃ (a : Addr) (ob : Obj) (kvs : List (List Key × V)) (n : String) (b : Bool), xs = [.ref a, .ty n] ∧ H a = some (.frz ob (.dT kvs)) ∧ PySem.W.kitOne K (.type "dict") (.type n) = some b ∧ Q (.bl b) H
theorem call_isiL {X : Cx} : CallR X (.builtin "isinstance") (rIsiL X.K) := by
  intro pins s σ H xs us Q I r h
  obtain ⟨a, ob, kvs, n, b, rfl, ha, e, q⟩ := h
  obtain ⟨u1, u2, rfl, r1, r2⟩ := r.two
  cases (show u1 = Value.ref a from r1)
  cases (show u2 = Value.type n from r2)
  have h := (show ObjOk X.prog X.w H s.heap a (.frz ob (.dT kvs)) from I.hok a _ ha)
  obtain ⟨_, _, _, xs, _, o, es, ep, h1, h2, _⟩ := h
  exact PySem.W.kia_one PySem.W.kitx_dict I.kIn ⟨o, h1, h2.1⟩ e (fun z => nomatch z) fun tk => ⟨.bl b, H, I.tok tk, rfl, q⟩
def rIsiX (K : PySem.W.Frag) : List V → Hp → VK → Prop := fun xs H Q => rIsiA K xs H Q ∨ rIsiL K xs H Q
def oIsiX : List D → Option D
  | [.ldt _, .ty b] => (kitB "dict" b).map .bl
  | xs => oIsi xs
theorem cad_isiX {K : PySem.W.Frag} : CaD K (rIsiX K) oIsiX := fun Z H xs ds d z rs e Q k => by
  unfold oIsiX at e
  split at e
  · obtain ⟨r, h3, rfl⟩ := Option.map_eq_some_iff.mp e
    cases rs with
    | cons r1 rs =>
      cases rs with
      | cons r2 rs =>
        cases rs
        cases r2
        cases r1 with
        | ldt h _ _ => exact .inr ⟨_, _, _, _, r, rfl, z _ _ h, kit_ty h3, k.now z (.bl _)⟩
  · exact .inl (cad_isi Z H xs ds d z rs e Q k)
theorem bi_isiX {g : Gm} : Bi g "isinstance" (rIsiX g.K) oIsiX := ⟨fun X is => by rw [← is.K]; exact caR_isi.or call_isiL, cad_isiX⟩
def oListX : List D → Option (List D)
  | [.ldt kds] => some (keysD kds)
  | [.dt kds] => some (keysD kds)
  | xs => oList xs
theorem caw_listX {K : PySem.W.Frag} : CaW2 K (rListA K) oListX := fun Z H xs ds d z rs e Q k => by
  unfold oListX at e
  split at e
  · rename_i kds
    cases e
    cases rs with
    | cons r1 rs =>
      cases rs
      cases r1 with
      | @ldt a ob kvs kds h hk hr =>
        refine .inr ⟨_, _, rfl, .inr ⟨_, z _ _ h⟩, fun p bs hp hb => ?_⟩
        obtain ⟨Z1, g1, r1⟩ := Gr.proms (K := K) z hb
        refine k p _ Z1 hp g1 ?_
        have : kvs.map (fun p => D.tup (p.1.map kD)) = keysD kds := by
          have := congrArg (List.map fun (q : List Key) => D.tup (q.map kD)) hk
          rw [List.map_map, List.map_map] at this
          exact this
        rw [← this]
        exact r1
  · rename_i kds
    cases e
    cases rs with
    | cons r1 rs =>
      cases rs
      cases r1 with
      | @dt a kvs kds h hk hr =>
        refine .inr ⟨_, _, rfl, .inl (z _ _ h), fun p bs hp hb => ?_⟩
        obtain ⟨Z1, g1, r1⟩ := Gr.proms (K := K) z hb
        refine k p _ Z1 hp g1 ?_
        have : kvs.map (fun p => D.tup (p.1.map kD)) = keysD kds := by
          have := congrArg (List.map fun (q : List Key) => D.tup (q.map kD)) hk
          rw [List.map_map, List.map_map] at this
          exact this
        rw [← this]
        exact r1
  · exact caw_list Z H xs ds d z rs e Q k
section
variable {g : Gm} {es : List Expr} {e : Expr} {fs : F (List D)} {p pos : Pos}
theorem w_listX (hm : g.mg "list" = none) (ha : SA g (e :: es) fs) (hg : g.sc.names.lookup ("list" : Str) = some .globalImplicit := by rfl) (he : ∀ env, starEach (e :: es) env = (false, eval e env) :: starEach es env := by intro _; rfl) (hpl : ∀ env, (backTo pos (starEach es env)).any (·.1) = false := by intro _; rfl) : SW g (.Call (.Name "list" p) (e :: es) [] pos) (fCallL oListX fs) :=
  sw_callTy2 (fun X is => by rw [← is.K]; exact caR_list is.calm) caw_listX hg hm (by rfl) ha (by decide) (by decide) he hpl
end
end FL
set_option Elab.async false
set_option linter.all false
set_option maxRecDepth 100000
set_option maxHeartbeats 2000000
/-! S23: name = [..], the name a cell -/
namespace FL
open PySem PySem.Spec PyProof.Rows L2
theorem swaps_cell {e : Expr} {x : Str} {p : Pos} {l : Nat} {env : Env} (h : env.scope.names.lookup x = some .cell) : swapsWith e (some (.Name x p)) l env = pure false := by
  have ky : env.kindOf x = some .cell := h
  have hb : (some NameKind.cell == some NameKind.local) = false := rfl
  unfold swapsWith
  cases e <;> first
    | rfl
    | (simp only [ky, hb, Bool.and_false, Bool.false_and])
section
variable {g : Gm} {e : Expr} {x : Str} {pos : Pos}
theorem ss_setC {i : Nat} {f : F W} {pos' : Pos} (hN : g.N[i]? = some x) (hc : g.sc.names.lookup x = some .cell) (h : SW g e f) (hl : ∀ X, Is g X → X.fn x = true ∨ X.env.scope.names.lookup x = some .local) :
    SS g (.Assign [.Name x pos'] e pos) (fSet i f) := by
  obtain ⟨t, p, s⟩ := h
  exact ⟨_, fun X is => ps_set (by rw [is.N]; exact is.nd) (by rw [is.N]; exact hN) (by rw [is.sc]; exact .inr hc) (p X is) (swaps_cell (by rw [is.sc]; exact hc)) (hl X is), sem_set s⟩
end
end FL
set_option Elab.async false
set_option linter.all false
set_option maxRecDepth 100000
set_option maxHeartbeats 2000000
/-! S24: a comprehension's name that is a name of the def, too: the def's stays -/
namespace FL
open PySem PySem.Spec PyProof.Rows L2
def fKeep (i : Nat) (f : F W) : F W := fun ρ => match ρ[i]?, f ρ with
  | some (.so false (.va d)), some (.ok w ρ') => if i < ρ'.length then some (.ok w (ρ'.set i (.so false (.va d)))) else none
  | _, r => r
section
variable {g : Gm} {e : Expr} {f : F W}
theorem sw_keep (i : Nat) (h : SW g e f) : SW g e (fKeep i f) := by
  obtain ⟨t, p, s⟩ := h
  refine ⟨t, p, fun fx Z H ρ σ ex w r e x Q k => ?_⟩
  unfold fKeep at e
  split at e
  · rename_i d w0 ρ' q1 q2
    split at e
    case isFalse => cases e
    rename_i hi
    cases e
    obtain ⟨v, hv, rv⟩ := w.get q1
    refine s fx Z H ρ σ ex w _ q2 (fun _ _ z => nomatch z) Q fun w1 ρ1 z u Z' H' fp zl wd fr rw' => ?_
    cases z
    have wd' := Wd.put (i := i) (f := []) wd (RepW.va (rv.mono zl)) hi
    rw [set_self σ i _ hv] at wd'
    exact k _ _ rfl u Z' H' fp zl wd' fr rw'
  · exact s fx Z H ρ σ ex w r e x Q k
end
end FL
set_option Elab.async false
set_option linter.all false
set_option maxRecDepth 100000
set_option maxHeartbeats 2000000
/-! S27: the body of a lambda, read as an expression over the maker's slots -/
namespace FL
open PySem PySem.Spec PyProof.Rows L2 LamX
/-- what is fixed in the body of a lambda made where g is fixed -/
def Gm.lam (g : Gm) (scope : Scope) (k : Nat) (E : XK) : Gm := { g with sc := scope, k := k, E := E, top := false, fnn := fun _ => false }
theorem Is.lam {g : Gm} {X : Cx} (is : Is g X) {scope : Scope} {k : Nat} {A : Around} {outer : List Env} {s : Shared} {H : Hp} {E : XK} {f c' : Addr} (hr : Room k (A.deeper (lamEnv X scope s.heap.objs.size f c'))) : Is (g.lam scope k E) (lamCx X A outer s H E scope f c') where
  prog := is.prog
  w := is.w
  K := is.K
  mg := is.mg
  base := is.base
  N := is.N
  nd := is.nd
  sc := rfl
  calm := rfl
  room := hr
  tk := takes_of rfl rfl rfl rfl
  fn := fun _ h => nomatch h
  po := fun h => nomatch h
  st := fun h => nomatch h
end FL
set_option Elab.async false
set_option linter.all false
set_option maxRecDepth 100000
set_option maxHeartbeats 2000000
/-! S28: an object of this call is tracked from now on -/
namespace FL
open PySem PySem.Spec PyProof.Rows L2
section
variable {X : Cx} {pins : List (Addr × Obj)} {σ : L2.St} {H : Hp} {s : Shared}
theorem inv_track {a : Addr} {φ : Heap → Prop} (I : Inv X pins σ H s) (hn : H a = none) (h1 : a ∈ X.ex ∨ X.s_0.heap.objs.size ≤ a) (hL : a ≠ X.env.locals) (h2 : ∀ x c, X.env.cells.lookup x = some c → c ≠ a) (h3 : ∀ p ∈ X.pn ++ pins, p.1 ≠ a)
    (new : ObjOk X.prog X.w (upd H a (.ext φ)) s.heap a (.ext φ)) : Inv X pins σ (upd H a (.ext φ)) s := by
  have nit : ∀ b u, H b = some u → b ≠ a := fun b u e z => by rw [z, hn] at e; cases e
  have J := I.step (H' := upd H a (.ext φ)) (h' := s.heap) (t' := s.toks) (g' := s.gens) (d' := s.drawn) (ch := [a]) (fun b hb => ?_) (fun b o _ _ _ e _ => e) (fun b o _ _ _ e _ => ⟨o.slots, e⟩) (fun b o hc _ n => by rw [upd_ne (fun z => hc (by simp [z]))]; exact n)
    (fun b o _ e => ⟨o, e⟩) (fun b xs e => by rw [upd_ne (nit b _ e)]; exact e) (fun b o u e => by rw [upd_ne (nit b _ e)]; exact e) (fun b ps e => ⟨#[], by rw [upd_ne (nit b _ e), e]; simp⟩) (fun m hm => hm) (fun b u e => ?_) I.bare
  · exact J
  · have e : b = a := by simpa using hb
    subst e
    exact ⟨h1, hL, h2, h3⟩
  · by_cases hb : b = a
    · rw [hb, upd_same] at e
      cases e
      rw [hb]
      exact new
    · rw [upd_ne hb] at e
      exact (I.hok b u e).stay (fun c v _ q => q) (fun c q => by rw [upd_ne (nit c _ q)]; exact q) fun c xs q => by rw [upd_ne (nit c _ q)]; exact q
/-- .. where it was not there at the entry -/
theorem inv_track2 {a : Addr} {φ : Heap → Prop} (I : Inv X pins σ H s) (hn : H a = none) (h1 : a ∈ X.ex ∨ X.s_0.heap.get? a = none) (hL : a ≠ X.env.locals) (h2 : ∀ x c, X.env.cells.lookup x = some c → c ≠ a) (h3 : ∀ p ∈ X.pn ++ pins, p.1 ≠ a)
    (new : ObjOk X.prog X.w (upd H a (.ext φ)) s.heap a (.ext φ)) : Inv X pins σ (upd H a (.ext φ)) s := by
  have nit : ∀ b u, H b = some u → b ≠ a := fun b u e z => by rw [z, hn] at e; cases e
  refine ⟨I.ok, I.os, I.bare, ⟨I.base.keep, I.base.slot, fun b o e n hx => ?_, I.base.there, fun b xs e => ?_, fun b o u e => ?_, fun b ps e => ?_⟩, I.loc, I.cell, ?_, fun x c e => ?_, fun p hp => ?_, fun b u e => ?_, I.len⟩
  · rw [upd_ne]
    · exact I.base.free b o e n hx
    · rintro rfl
      rcases h1 with h1 | h1
      · exact hx h1
      · rw [h1] at e; cases e
  · have := I.base.tups b xs e
    rw [upd_ne (nit b _ this)]; exact this
  · have := I.base.frzs b o u e
    rw [upd_ne (nit b _ this)]; exact this
  · obtain ⟨m, this⟩ := I.base.tbls b ps e
    exact ⟨m, by rw [upd_ne (nit b _ this)]; exact this⟩
  · rw [upd_ne (Ne.symm hL)]; exact I.free
  · rw [upd_ne (h2 x c e)]; exact I.freeC x c e
  · obtain ⟨e, n, r⟩ := I.pin p hp
    exact ⟨e, by rw [upd_ne (h3 p hp)]; exact n, r⟩
  · by_cases hb : b = a
    · rw [hb, upd_same] at e
      cases e
      rw [hb]
      exact new
    · rw [upd_ne hb] at e
      exact (I.hok b u e).stay (fun c v _ q => q) (fun c q => by rw [upd_ne (nit c _ q)]; exact q) fun c xs q => by rw [upd_ne (nit c _ q)]; exact q
end
end FL
set_option Elab.async false
set_option linter.all false
set_option maxRecDepth 100000
set_option maxHeartbeats 2000000
/-! S25: a lambda as a value of its own -/
namespace FL
open PySem PySem.Spec PyProof.Rows L2
/-- the function object of a lambda -/
def FunOb (q : Str) (cl : List (Str × Addr)) (params : Arguments) (body : Expr) (scope : Scope) (f k : Addr) : HO :=
  .ext fun h => ∃ pm ct, h.get? f = some (PySem.W.kla_obj "<lambda>" q params body scope cl pm k ct)
theorem funOb_is {q : Str} {cl : List (Str × Addr)} {params : Arguments} {body : Expr} {scope : Scope} {f k : Addr} {pm ct : Value} {P : Program} {w : World} {H : Hp} {h : Heap}
    (e : h.get? f = some (PySem.W.kla_obj "<lambda>" q params body scope cl pm k ct)) : ObjOk P w H h f (FunOb q cl params body scope f k) := by
  refine ⟨⟨_, _, e⟩, ⟨_, e⟩, ?_⟩
  rintro h1 h2 ⟨pm', ct', e'⟩ st
  exact ⟨pm', ct', st _ e'⟩
/-- one more code object in the table -/
def grown (H : Hp) (P : Addr) (ps : Array Value) (pos : Pos) (k : Addr) (q : Str) : Hp :=
  upd (upd H P (.tbl (ps ++ #[rawInt pos.line, rawInt pos.col, .ref k]))) k (LamX.CodeO k q)
section
variable {H : Hp} {P k : Addr} {ps : Array Value} {pos : Pos} {q : Str} {T : List (Addr × Str)}
theorem grown_code : grown H P ps pos k q k = some (LamX.CodeO k q) := upd_same
theorem grown_old (hk : H k = none) {b : Addr} {o : HO} (e : H b = some o) (n : b ≠ P) : grown H P ps pos k q b = some o := by
  have nk : b ≠ k := by rintro rfl; rw [hk] at e; cases e
  rw [grown, upd_ne nk, upd_ne n, e]
theorem grown_none (hP : H P ≠ none) {b : Addr} (e : H b = none) (n : b ≠ k) : grown H P ps pos k q b = none := by
  have nP : b ≠ P := by rintro rfl; exact hP e
  rw [grown, upd_ne n, upd_ne nP, e]
theorem grown_tabs (hP : H P = some (.tbl ps)) (ok : TriplesOk ps.toList) (hk : H k = none) (hT : LamX.Tabs T H) (hu : ∀ p ∈ T, p.1 = P → p.2 = q) : LamX.Tabs T (grown H P ps pos k q) := by
  have code : ∀ c r, H c = some (LamX.CodeO c r) → grown H P ps pos k q c = some (LamX.CodeO c r) := fun c r e => by
    refine grown_old hk e ?_
    rintro rfl
    rw [hP] at e
    injection e with e
    exact LamX.codeO_ne ps e.symm
  rintro ⟨p, r⟩ hp
  obtain ⟨qs, t1, t2, t3⟩ := hT _ hp
  by_cases hb : p = P
  · have hr : r = q := hu _ hp hb
    have t1 : H p = some (.tbl qs) := t1
    rw [hb, hP] at t1
    obtain rfl : ps = qs := by injection t1 with t1; injection t1
    have tl : (ps ++ #[rawInt pos.line, rawInt pos.col, Value.ref k]).toList = ps.toList ++ [rawInt pos.line, rawInt pos.col, .ref k] := by simp
    have nPk : P ≠ k := by rintro rfl; rw [hk] at hP; cases hP
    refine ⟨ps ++ #[rawInt pos.line, rawInt pos.col, .ref k], ?_, ?_, fun pp cv hcv => ?_⟩
    · show grown H P ps pos k q p = _
      rw [hb, grown, upd_ne nPk, upd_same]
    · rw [tl]; exact PySem.TriplesOk_snoc _ _ _ _ ok
    · rw [tl] at hcv
      cases LamX.among_app _ ok hcv with
      | inl z =>
        obtain ⟨c, e1, e2⟩ := t3 pp cv z
        exact ⟨c, e1, code _ _ e2⟩
      | inr z => exact ⟨k, z, by rw [hr]; exact grown_code⟩
  · refine ⟨qs, grown_old hk t1 hb, t2, fun pp cv hcv => ?_⟩
    obtain ⟨c, e1, e2⟩ := t3 pp cv hcv
    exact ⟨c, e1, code _ _ e2⟩
end
/-- the reading: a new function f, its code object k; all but the table at P is as it was -/
def tLamV (T : List (Addr × Str)) (P : Addr) (q : Str) (fo : Addr → Addr → HO) : TE := fun σ H Q => LamX.Tabs T H ∧ ∀ (f k : Addr) (H1 : Hp),
  (∀ b o, H b = some o → b ≠ P → H1 b = some o) → (∀ b, H b = none → b ≠ k → H1 b = none) → LamX.Tabs T H1 → H1 k = some (LamX.CodeO k q) → H f = none → H1 f = none → Q (.ref f) (upd H1 f (fo f k))
section
variable {X : Cx}
theorem pe_lamV {T : List (Addr × Str)} {c P : Addr} {params : Arguments} {body : Expr} {scope : Scope} {pos : Pos} (tb : LamX.TabB X.base X.mg c P) (hcode : X.env.code = .ref c) (hm : (P, X.env.qual ++ "<lambda>") ∈ T)
    (hu : ∀ p ∈ T, p.1 = P → p.2 = X.env.qual ++ "<lambda>") (L : LamX.LamS X.env.scope scope) (hdef : defaultsOf params X.env = ([], [])) :
    PE X (.Lambda params body scope pos) (tLamV T P (X.env.qual ++ "<lambda>") (FunOb (X.env.qual ++ "<lambda>") (cloFrom X.env.cells scope.names []) params body scope)) := by
  constructor
  rintro pins s σ H Q I ⟨tabs, next⟩
  have hfree := L.has I.ok
  obtain ⟨ps, hP, ok, codes⟩ := tabs _ hm
  have atP : s.heap.get? P = some { cls := .none, data := .fields ps } := I.hok _ _ hP
  have blt := tb.bm.keeps I.bk
  have glo := I.mod.glob.keeps I.bk
  have chd := tb.code.keeps I.bk
  apply PySem.W.kla_eval hdef
  rcases hc : codeAmong pos ps.toList with _ | cv
  · refine PySem.W.kla_makeFunction (closure_ok hfree) I.ok.glob glo hcode chd atP ok hc tb.gP blt ?_
    rintro k ct h1 tk ext new lt ⟨k2, oc, vs, t, e, h5, h6, h7⟩ atP1
    cases e
    have hk : H k = none := I.hok.fresh new
    have I1 := LamX.inv_table (t' := tk) (more := #[rawInt pos.line, rawInt pos.col, .ref k]) I hP ext atP1 new ⟨oc, vs, t, h5, h6, h7⟩
    have fr : s.heap.objs.size ≤ h1.objs.size := Nat.le_trans new (Nat.le_of_lt lt)
    have fH : H h1.objs.size = none := I.hok.fresh fr
    have f1 : grown H P ps pos k (X.env.qual ++ "<lambda>") h1.objs.size = none := grown_none (by rw [hP]; exact fun z => nomatch z) fH (Nat.ne_of_gt lt)
    have I2 := Inv.laid (t' := tk) (a := h1.objs.size) I1 (fun b o e => Heap.get?_push_of_some _ e) (Nat.le_refl _)
      (funOb_is (q := X.env.qual ++ "<lambda>") (cl := cloFrom X.env.cells scope.names []) (params := params) (body := body) (scope := scope) (k := k) (ct := ct) (pm := (X.mg "__name__").getD .none) (Heap.get?_push_size _ rfl))
    exact ⟨.ref h1.objs.size, _, I2, rfl, next _ k (grown H P ps pos k (X.env.qual ++ "<lambda>")) (fun b o e n => grown_old hk e n) (fun b e n => grown_none (by rw [hP]; exact fun z => nomatch z) e n) (grown_tabs hP ok hk tabs hu) grown_code fH f1⟩
  · obtain ⟨k, rfl, hk⟩ := codes pos cv hc
    refine PySem.W.kla_makeFunctionHit (closure_ok hfree) I.ok.glob glo hcode chd atP ok hc blt ?_
    intro ct h1 tk ext new
    have fH : H h1.objs.size = none := I.hok.fresh new
    have I2 := Inv.laid (t' := tk) (a := h1.objs.size) I (fun b o e => Heap.get?_push_of_some _ (ext b o e)) new
      (funOb_is (q := X.env.qual ++ "<lambda>") (cl := cloFrom X.env.cells scope.names []) (params := params) (body := body) (scope := scope) (k := k) (ct := ct) (pm := (X.mg "__name__").getD .none) (Heap.get?_push_size _ rfl))
    exact ⟨.ref h1.objs.size, _, I2, rfl, next _ k H (fun _ _ e _ => e) (fun _ e _ => e) tabs hk fH fH⟩
end
end FL
set_option Elab.async false
set_option linter.all false
set_option maxRecDepth 100000
set_option maxHeartbeats 2000000
/-! S26: a kept lambda is called, in a def that got it -/
namespace FL
open PySem PySem.Spec PyProof.Rows L2
section
variable {X : Cx} {pins : List (Addr × Obj)} {σ : L2.St} {H HZ : Hp} {s s1 : Shared}
/-- the frame from which the lambda is called, A's innermost, and the state there: all that it takes to run the body over the maker's slots -/
theorem lam_runs {A : Around} {outer : List Env} {E : XK} {f k : Addr} {pm ct : Value} {params : Arguments} {body : Expr} {scope : Scope} {j : Nat} {te : TE} {Q : VK} (I : Inv X pins σ H s) (L : LamX.LamS X.env.scope scope)
    (e0 : Env0 X.prog X.w X.K X.mg X.base A outer s1 HZ) (nl : s1.heap.NoLimit) (room : Room (j + 1) A) (un : Un (frs X.stack) [] H HZ s.heap s1.heap)
    (hf : s1.heap.get? f = some (PySem.W.kla_obj "<lambda>" (X.env.qual ++ "<lambda>") params body scope (cloFrom X.env.cells scope.names []) pm k ct)) (hk : ∃ oc vs t, s1.heap.get? k = some oc ∧ oc.data = .fields vs ∧ vs[1]? = some (.str (X.env.qual ++ "<lambda>") t))
    (none_ : bindArgs (PySem.W.kla_fn "<lambda>" (X.env.qual ++ "<lambda>") params body scope (cloFrom X.env.cells scope.names []) pm (.ref k) ct) ⟨[], []⟩ = pure [])
    (rd : PE (LamX.lamCx X A outer s1 HZ E scope f k) body te) (q : te σ HZ Q) :
    codeAny (model X.prog X.w) A (.call (.ref f) ⟨[], []⟩) (CR (L2.CX X.prog X.w) outer X.prog X.w HZ s1 Q E) s1 := by
  obtain ⟨oc, vs, t, k1, k2, k3⟩ := hk
  apply PySem.W.kla_callFunE room.depth hf rfl L.co L.gen rfl ⟨k, oc, vs, t, rfl, k1, k2, k3⟩
  rw [none_]
  apply wpAny_pure
  apply wpAny_newFunctionEnv (fun y hy => (L.own y hy).2) (fun _ hy => by cases hy) ?_ L.kind
  intro h1 ns sb
  refine ⟨nl.fresh _ sb, ?_⟩
  have old : ∀ b o, s1.heap.get? b = some o → h1.get? b = some o := fun b o e =>
    sb.extBut b o (Nat.ne_of_lt (Heap.lt_size e)) (Heap.get?_push_of_some _ e)
  have J := LamX.lam_start2 (E := E) (f := f) (c' := k) (tk := s1.toks + ([] : List (Str × Value)).length) I L e0 room.hd un ns old
  apply PySem.W.kla_codeExpr
  refine wpAny_mono (rd.run [] _ _ HZ Q J q) ?_ fun _ _ z => z
  rintro v s2 ⟨u, H2, J2, rv, q2⟩
  exact ⟨u, H2, J2.os, J2.bare, J2.base, J2.hok, rv, q2⟩
/-- act(), the name in slot i: f, made in X, which stands at s and called the def that runs now -/
theorem pe_kept {CXg : CXT} {Eg : XK} {Ng : List Str} {qg : Str} {sg : Scope} {g f k : Addr} {cdg : Value} {params : Arguments} {body : Expr} {scope : Scope} {j i : Nat} {a : Str} {pn : List (Addr × Obj)} {xe : Value → Shared → Prop} {W : WX} {E : XK} {te : TE} {p1 p2 : Pos}
    (I : Inv X pins σ H s) (L : LamX.LamS X.env.scope scope)
    (none_ : ∀ pm ct : Value, bindArgs (PySem.W.kla_fn "<lambda>" (X.env.qual ++ "<lambda>") params body scope (cloFrom X.env.cells scope.names []) pm (.ref k) ct) ⟨[], []⟩ = pure [])
    (tk : Takes ((cxOf CXg X.prog X.w X.K X.mg X.base Ng qg sg g cdg X.A X.stack s H Eg).tr pn xe) W) (hE : ∀ cls d σ' H', E cls d H' → W cls d σ' H') (room : Room (j + 1) (X.A.deeper (envOfC qg sg s.heap.objs.size g cdg)))
    (rd : ∀ (s1 : Shared) (H1 : Hp), PE (LamX.lamCx X (X.A.deeper (envOfC qg sg s.heap.objs.size g cdg)) (envOfC qg sg s.heap.objs.size g cdg :: X.stack) s1 H1 E scope f k) body te)
    (hN : Ng[i]? = some a) (hv : Vis sg a) (hd : (a == ("__debug__" : Str)) = false := by decide) (hcd : (a == ("__classdict__" : Str)) = false := by decide) :
    PE ((cxOf CXg X.prog X.w X.K X.mg X.base Ng qg sg g cdg X.A X.stack s H Eg).tr pn xe) (.Call (.Name a p1) [] [] p2) (fun τ H1 Q => τ[i]? = some (some (.ref f)) ∧
      H1 f = some (FunOb (X.env.qual ++ "<lambda>") (cloFrom X.env.cells scope.names []) params body scope f k) ∧ H1 k = some (LamX.CodeO k (X.env.qual ++ "<lambda>")) ∧ te σ H1 Q) := by
  constructor
  rintro pinsZ sZ τ H1 Q IZ ⟨hs, hf, hk, ht⟩
  have name := (pe_var (pos := p1) (i := i) hN hv hd hcd).run pinsZ sZ τ H1 (fun v H2 => v = .ref f ∧ H2 = H1) IZ ⟨.ref f, hs, rfl, rfl⟩
  apply wpAny_Call_Name_kw
  refine thn name ?_
  rintro u s1 ⟨v, H2, I1, rv, rfl, rfl⟩
  obtain rfl : u = Value.ref f := rv
  obtain ⟨⟨pm, ct, atf⟩, -, -⟩ := I1.hok f _ hf
  obtain ⟨code, -, -⟩ := I1.hok k _ hk
  apply PySem.W.callWith_F0 ⟨_, _, _, _, atf⟩
  have run := lam_runs (A := X.A.deeper (envOfC qg sg s.heap.objs.size g cdg)) (outer := envOfC qg sg s.heap.objs.size g cdg :: X.stack) (E := E) I L I1.env0 I1.nolimit room I1.base atf code (none_ pm ct) (rd s1 H2) ht
  apply wpAny_call
  refine codeAny_mono run ?_
  rintro (e | fl) s2 q
  · exact passes_call tk hE pinsZ τ H2 s1 e s2 I1 q
  · cases fl with
    | ret w => exact I1.after q
    | next => cases q
    | brk => cases q
    | cont => cases q
end
end FL
set_option Elab.async false
set_option linter.all false
set_option maxRecDepth 100000
set_option maxHeartbeats 2000000
/-! S29: try .. except C as n: .., where the clause takes whatever comes, and the exception is kept behind it -/
namespace FL
open PySem PySem.Spec PyProof.Rows L2
section
variable {X : Cx} {pins : List (Addr × Obj)} {σ : L2.St} {H : Hp} {s : Shared}
/-- the suite's end: the clause's name goes, the exception is tracked -/
theorem suite_kept {M : Model} {A : Around} {E : Value → Shared → Prop} {a : Addr} {o : Obj} {cls : Value} {d : Option Addr} {i : Nat} {n : Str} {pos : Pos} {Q : Unit → Shared → Prop} (S : Inv (X.suite a ((a, o) :: (X.pn ++ pins))) [] σ H s) (ok : X.Ok)
    (hN : X.N.Nodup) (hi : X.N[i]? = some n) (hl : X.env.kindOf n = some .local) (hz : Zc cls d o) (hd : ∃ vs, o.data = .fields vs) (new : a ∈ X.ex ∨ X.s_0.heap.get? a = none) (own : ∀ p ∈ X.pn ++ pins, p.1 ≠ a)
    (next : ∀ s2, Inv X pins (σ.set i none) (upd H a (.ext (ExcP a cls d))) s2 → Q () s2) : wpAny M A (do bindName X.env n .none; unbindBehindTheSuite X.env n pos) Q E s := by
  have here := S.pin (a, o) (List.mem_append_left _ List.mem_cons_self)
  have I : Inv X pins σ H s := S.unsuite ok
  have Ia : Inv X ((a, o) :: pins) σ H s := I.pins_of fun p hp => by
    cases List.mem_cons.mp hp with
    | inl e => rw [e]; exact here
    | inr e => exact I.pin p (List.mem_append_right _ e)
  refine gone_ok Ia hN hi hl fun s2 J => next s2 ?_
  have at2 := J.pin (a, o) (List.mem_append_right _ List.mem_cons_self)
  have J2 : Inv X pins (σ.set i none) H s2 := J.pins_of fun p hp => J.pin p (List.mem_append_right _ (List.mem_cons_of_mem _ hp))
  obtain ⟨vs, hvs⟩ := hd
  refine inv_track2 J2 at2.2.1 new at2.2.2.1 (fun x c e z => ?_) own ⟨⟨o, at2.1, hz, vs, hvs⟩, ⟨o, at2.1⟩, ?_⟩
  · obtain ⟨v, oc, hoc, hcd⟩ := J2.cell x c e
    rw [z, at2.1] at hoc
    cases hoc
    rw [hvs] at hcd
    cases hcd
  · rintro h1 h2 ⟨o1, e1, r⟩ st
    exact ⟨o1, st _ e1, r⟩
end
end FL
set_option Elab.async false
set_option linter.all false
set_option maxRecDepth 100000
set_option maxHeartbeats 2000000
/-! S30: try .. except C as n: .., the whole -/
namespace FL
open PySem PySem.Spec PyProof.Rows L2
/-- what is wished of an exception: C takes it; then the suite, with the exception in slot i; behind it the exception is kept -/
def wKeep (K : PySem.W.Frag) (c : Value) (i n : Nat) (ts : Addr → Value → Option Addr → TS) (D : Ends) : WX := fun cls d σ H =>
  PySem.W.exmOne K cls c = some true ∧ ∀ a, H a = none → σ.length = n →
    ts a cls d { nx := fun τ H' => D.nx (τ.set i none) (upd H' a (.ext (ExcP a cls d))), rt := fun _ _ => False, bk := fun _ _ => False, ct := fun _ _ => False } (σ.set i (some (.ref a))) H
section
variable {X : Cx} {x n : Str} {c : Value} {i : Nat} {body rest : List Stmt} {first : Stmt} {np p1 p2 : Pos} {tb : WX → TS} {ts : Addr → Value → Option Addr → TS}
theorem ps_try_keep (hs : X.stack = X.env :: X.outer) (hf : X.env.frame = some X.env.locals) (hN : X.N.Nodup) (hi : X.N[i]? = some n) (hln : X.env.kindOf n = some .local) (hc : Names X x c)
    (hb : ∀ (W : WX) (pn : List (Addr × Obj)) (xe : Value → Shared → Prop), Takes (X.tr pn xe) W → PassesOwn (model X.prog X.w) X.A X.env xe → PSs (X.tr pn xe) body (tb W))
    (hsu : ∀ (a : Addr) (o : Obj) (cls : Value) (d : Option Addr) (pn : List (Addr × Obj)), Zc cls d o → (∃ vs, o.data = .fields vs) → PSs (X.suite a ((a, o) :: pn)) (first :: rest) (ts a cls d)) :
    PS X (.Try body [.ExceptHandler (some (.Name x np)) (some n) (first :: rest) p2] [] [] p1) (fun D σ H => tb (wKeep X.K c i X.N.length ts D) D σ H) := by
  constructor
  intro pins s σ H D I h
  have ok := I.ok
  have frames : X.A.frames = some (X.env :: X.outer) := by rw [ok.frames, hs]
  apply wpAny_Try_except
  have catches : ∀ (xe : Value → Shared → Prop), xe = (fun e t => wpAny (model X.prog X.w) X.A (noteFrame e X.env) (fun _ t => wpAny (model X.prog X.w) X.A (setFlight e none) (fun _ t =>
      wpAny (model X.prog X.w) X.A (handleBy e X.env [.ExceptHandler (some (.Name x np)) (some n) (first :: rest) p2]) (SP X pins D) X.xe t) X.xe t) X.xe t) → Takes (X.tr (X.pn ++ pins) xe) (wKeep X.K c i X.N.length ts D) := by
    rintro xe rfl u t ⟨a, B, t0, pins0, τ, H0, cls, d, rfl, J0, nb, up, sky, na, os, ag, take, suite⟩
    have J : Inv X pins τ H0 t0 := J0.ofTry ok
    have sky1 : Sky B (X.env :: X.outer) a (Zc cls d) X.env.locals t.heap := by rw [← hs]; exact sky
    refine Sky.land Zc.steady frames hf sky1 fun h3 fl3 up3 => ?_
    have J3 : Inv X pins τ H0 { t with heap := h3 } := J.landed nb fl3.1 (up.trans up3) os ag
    obtain ⟨o3, vs3, at3, z3, d3⟩ := fl3.there
    have noFrame : a ∉ frs (X.env :: X.outer) := by
      intro hm
      obtain ⟨_, o, e, no⟩ := fl3.2.2.1.mem hm
      rw [at3] at e
      cases e
      exact no _ d3
    have nL : a ≠ X.env.locals := by
      rintro rfl
      exact noFrame (List.mem_filterMap.mpr ⟨X.env, List.mem_cons_self, hf⟩)
    have nF : a ∉ X.fs := by
      intro hm
      obtain ⟨e, he, q⟩ := List.mem_filterMap.mp hm
      exact noFrame (List.mem_filterMap.mpr ⟨e, List.mem_cons_of_mem _ he, q⟩)
    have ground : B.get? a = none := by
      obtain ⟨_, g, _⟩ := id fl3
      exact g
    have before : t0.heap.get? a = none := by
      rcases q : t0.heap.get? a with _ | o
      · rfl
      · have := nb a o q (by show a ∉ frs X.stack; rw [hs]; exact noFrame)
        rw [ground] at this
        cases this
    have new : a ∈ X.ex ∨ X.s_0.heap.get? a = none := by
      by_cases hx : a ∈ X.ex
      · exact .inl hx
      · right
        rcases q : X.s_0.heap.get? a with _ | o
        · rfl
        · obtain ⟨o', e⟩ := J.base.there a o q hx
          rw [before] at e
          cases e
    have own : ∀ p ∈ X.pn ++ pins, p.1 ≠ a := by
      rintro p hp rfl
      have := (J.pin p hp).1
      rw [before] at this
      cases this
    have S3 := J3.suite at3 d3 na nL nF
    apply wpAny_handleBy_cons
    · apply codeAny_handlers_test
      have test : ∀ {Q : Value → Shared → Prop} {E : Value → Shared → Prop}, Q c { t with heap := h3 } → wpAny (model X.prog X.w) (X.A.mark (some (.ref a))) (eval (.Name x np) X.env) Q E { t with heap := h3 } := by
        intro Q E q
        obtain ⟨hg, hdb, hm | ⟨hm, hv, hnn⟩⟩ := hc
        · exact ld_glob (X := X.suite a ((a, o3) :: (X.pn ++ pins))) S3 hg hm q hdb
        · exact ld_blt (X := X.suite a ((a, o3) :: (X.pn ++ pins))) S3 hg hm hv q hnn hdb
      refine test ((PySem.W.exm_one (M := model X.prog X.w) J3.kIn (fun A Q E t' k q => wpAny_typeOf_ref (k _ _ at3) (by rw [z3.1]; exact q)) take).here ?_)
      apply codeAny_handlers_suite_as
      refine HandSPX.lands_againZ fl3 fun h4 fl4 up4 => ?_
      have J4 : Inv X pins τ H0 { t with heap := h4 } := J.landed nb fl4.1 ((up.trans up3).trans up4) os ag
      obtain ⟨o4, vs4, at4, z4, d4⟩ := fl4.there
      have S4 := J4.suite at4 d4 na nL nF
      refine store_ok (X := X.suite a ((a, o4) :: (X.pn ++ pins))) (v := .ref a) S4 hN hi (.inl hln) rfl (fun t5 S5 => ?_) (.inr hln)
      refine wpAny_mono ((hsu a o4 cls d (X.pn ++ pins) z4 ⟨_, d4⟩).run [] t5 _ H0 _ S5 (suite a na J0.len)) (fun fl t6 hq => ?_) fun _ _ z => False.elim z
      cases fl with
      | next =>
        obtain ⟨τ6, H6, S6, q6⟩ := hq
        exact suite_kept S6 ok hN hi hln z4 ⟨_, d4⟩ new own fun t7 J7 => ⟨_, _, J7, q6⟩
      | brk => obtain ⟨_, _, _, q6⟩ := hq; cases q6
      | cont => obtain ⟨_, _, _, q6⟩ := hq; cases q6
      | ret u => obtain ⟨_, _, _, _, _, q6⟩ := hq; cases q6
    · intro q; cases q
  refine wpAny_mono ((hb (wKeep X.K c i X.N.length ts D) (X.pn ++ pins) _ (catches _ rfl) PassesOwn.looking).run [] s σ H D (I.toTry _) h) (fun fl t hq => ?_) fun _ _ z => z
  cases fl with
  | next =>
    obtain ⟨τ, H', J, q⟩ := hq
    exact wpAny_execs_nil ⟨τ, H', J.ofTry ok, q⟩
  | brk => obtain ⟨τ, H', J, q⟩ := hq; exact ⟨τ, H', J.ofTry ok, q⟩
  | cont => obtain ⟨τ, H', J, q⟩ := hq; exact ⟨τ, H', J.ofTry ok, q⟩
  | ret u => obtain ⟨v, τ, H', J, r, q⟩ := hq; exact ⟨v, τ, H', J.ofTry ok, r, q⟩
end
end FL
set_option Elab.async false
set_option linter.all false
set_option maxRecDepth 100000
set_option maxHeartbeats 2000000
/-! S31: isinstance of a kept exception -/
namespace FL
open PySem PySem.Spec PyProof.Rows L2
def rIsK (K : PySem.W.Frag) (D : Addr) : List V → Hp → VK → Prop := fun xs H Q => ∃ (a : Addr) (c : V) (cv : Value) (b : Bool), xs = [.ref a, c] ∧ H a = some (.ext (ExcP a (.ref D) none)) ∧
  (∀ u, RelV c u → u = cv) ∧ PySem.W.kitOne K (.ref D) cv = some b ∧ Q (.bl b) H
theorem call_isK {X : Cx} {D : Addr} (C : ExcC X.K D) : CallR X (.builtin "isinstance") (rIsK X.K D) := by
  rintro pins s σ H xs us Q I r ⟨a, c, cv, b, rfl, ha, one, kit, q⟩
  obtain ⟨u1, u2, rfl, r1, r2⟩ := r.two
  cases (show u1 = Value.ref a from r1)
  cases one _ r2
  obtain ⟨⟨⟨k, d, dt, sl⟩, at_, ⟨z1, z2⟩, vs, hv⟩, -, -⟩ := I.hok a _ ha
  dsimp only at z1 z2 hv
  subst z1 z2 hv
  have inst : PySem.W.InstAt s.heap a _ D none := ⟨at_, rfl, rfl, trivial⟩
  exact PySem.W.kia_one (PySem.W.handS_kitx_exc C.hg C.hk C.hs C.hd C.ha C.hn C.ht C.hm)
    I.kIn inst kit (fun z => nomatch z) fun tk => ⟨.bl b, H, I.tok tk, rfl, q⟩
end FL
set_option Elab.async false
set_option linter.all false
set_option maxRecDepth 100000
set_option maxHeartbeats 2000000
/-! S32: a list comprehension without test, whose element may look at the def's own frame -/
namespace FL
open PySem PySem.Spec PyProof.Rows L2
/-- in the block, the def's frame stands as it stood when the block began -/
def Behind (X : Cx) (pins : List (Addr × Obj)) (σ : L2.St) (B : Cx) : Prop := ∀ pins' σ' H' s', Inv B pins' σ' H' s' → Inv X pins σ H' s'
section
variable {X : Cx} {elt tg iter : Expr} {scope : Scope} {own : List (Str × Nat)} {pos : Pos} {wi : TI} {g : TG} {te : L2.St → TE}
theorem pe_each (calm : X.calm = true) (nd : X.N.Nodup) (walk : PI X tg iter wi) (ok : BlkOk X.N X.env.scope scope own)
    (target : ∀ s H C cl fp, PG (X.blk s H scope (compEnvC scope cl C X.env) fp) tg g)
    (element : ∀ pins σ s H C cl fp, Behind X pins σ (X.blk s H scope (compEnvC scope cl C X.env) fp) → PE (X.blk s H scope (compEnvC scope cl C X.env) fp) elt (te σ))
    (plain : ∀ x, foldedSetIterable iter X.env x = pure x := by intro _; rfl) : PE X (.ListComp elt [⟨tg, iter, [], 0⟩] scope pos) (fun σ H Q => tLc wi g tYes (te σ) (own.map (·.2)) σ H Q) := by
  constructor
  intro pins s σ H Q J want
  have frees : ∀ y ∈ scope.names, y.2 = .free → ∃ c, X.env.cells.lookup y.1 = some c := by
    intro y hy e
    cases ok.free y hy e with
    | inl k => exact J.ok.has _ (.inl k)
    | inr k => exact J.ok.has _ (.inr k)
  rw [eval_ListComp]
  apply wpAny_comprehension_free rfl plain (closure_ok frees) ok.kind (fun y hy e => by rw [← e]; exact ok.uniq y hy)
  refine thn (walk.run pins s σ H _ J want) ?_
  intro _ sa iterate
  refine thn iterate ?_
  rintro _ sb ⟨it, fp, tn, W0, Hb, rfl, Jb, T, here, own_, goal⟩
  refine wpAny_newObj_type (newEnv_comp ?_) (Nat.zero_le _)
  -- the new list at d
  obtain ⟨d, ed⟩ : ∃ d, d = sb.heap.objs.size := ⟨_, rfl⟩
  rw [← ed]
  have dn : Hb d = none := Jb.hok.fresh (Nat.le_of_eq ed.symm)
  obtain ⟨St, ⟨m0, st0⟩, turn⟩ := goal d dn
  obtain ⟨sc, esc⟩ : ∃ sc : Shared, sc = { sb with heap := sb.heap.push { cls := .type "list", data := .seq ([] : List Value).toArray } } := ⟨_, rfl⟩
  have hpc : sc.heap = sb.heap.push { cls := .type "list", data := .seq ([] : List Value).toArray } := by rw [esc]
  obtain ⟨Hc, eHc⟩ : ∃ Hc, Hc = upd Hb d (.lst []) := ⟨_, rfl⟩
  have Jc : Inv X pins σ Hc sc := by
    subst eHc esc
    apply Jb.laid (t' := sb.toks) (fun _ _ e => Heap.get?_push_of_some _ e) (Nat.le_of_eq ed.symm)
    refine ⟨Nat.zero_le _, [], 0, .nil, ?_⟩
    rw [ed]
    exact Heap.get?_push_size _ rfl
  have fpc : ∀ b ∈ fp, FpOk X pins Hc b ∧ b < sc.heap.objs.size := by
    intro b hb
    have old : b < sb.heap.objs.size := by
      obtain ⟨_, e, _⟩ := T.obj _ _ here b hb
      exact Heap.lt_size e
    constructor
    · refine ⟨?_, (own_ b hb).2⟩
      rw [eHc, upd_ne (by rw [ed]; exact Nat.ne_of_lt old)]
      exact (own_ b hb).1
    · rw [hpc, Heap.size_push]
      exact Nat.lt_succ_of_lt old
  have hereC : tn 0 sc.heap := T.keep _ _ _ here (by intro b _ o e; rw [hpc]; exact Heap.get?_push_of_some _ e)
  have start := block_start Jc ok nd fpc
  rw [← esc]
  show codeAny _ _ (.compStart (.ListComp elt [⟨tg, iter, [], 0⟩] scope pos) 0 (.ref it) (.ref d) (compEnvC scope (cellsFrom (sc.heap.objs.size + 1) scope.names (cloFrom X.env.cells scope.names [])) sc.heap.objs.size X.env)) (compPost (model X.prog X.w) X.A X.xe none _ (.ref d) sc.heap.objs.size)
    { sc with heap := pushCells (sc.heap.push { cls := .type "dict", data := .dict #[] }) scope.names }
  have elem := element pins σ sc Hc sc.heap.objs.size (cellsFrom (sc.heap.objs.size + 1) scope.names (cloFrom X.env.cells scope.names [])) fp
  have tgt := target sc Hc sc.heap.objs.size (cellsFrom (sc.heap.objs.size + 1) scope.names (cloFrom X.env.cells scope.names [])) fp
  generalize eB : compEnvC scope (cellsFrom (sc.heap.objs.size + 1) scope.names (cloFrom X.env.cells scope.names [])) sc.heap.objs.size X.env = ce at start elem tgt ⊢
  have loc : ce.locals = sc.heap.objs.size := by rw [← eB]; rfl
  generalize eS : ({ sc with heap := pushCells (sc.heap.push { cls := .type "dict", data := .dict #[] }) scope.names } : Shared) = sd at start ⊢
  have hereD : tn 0 sd.heap := T.keep _ _ _ hereC (by intro b _ o e; rw [← eS]; exact pushCells_keeps _ _ _ _ (Heap.get?_push_of_some _ e))
  have back : Behind X pins σ (X.blk sc Hc scope ce fp) := by
    intro pins' σ' H' s' I'
    refine Jc.call' (ch := fp) I'.os I'.base I'.hok I'.bare fun b hb => ?_
    obtain ⟨⟨_, a1, _, a2, a3, a4⟩, _⟩ := fpc b hb
    exact ⟨a2, a1, a3, a4⟩
  have iters : ∀ {σ' H' s'}, Inv (X.blk sc Hc scope ce fp) [] σ' H' s' → (∀ b ∈ fp, H' b = none) → ∀ b ∈ fp, FpOk (X.blk sc Hc scope ce fp) [] H' b := by
    intro σ' H' s' I' hn b hb
    have z := I'.ok.exf b hb
    exact ⟨hn b hb, z.1, I'.ok.exfs b hb, .inl hb, z.2, fun p hp => nomatch (show p ∈ ([] : List (Addr × Obj)) from hp)⟩
  have loop := compLoop_any (prog := X.prog) (w := X.w) (A := X.A) (target := tg) (ifs := []) (elt := elt) (iter := iter) (scope := scope) (pos := pos) (it := .ref it) (acc := .ref d) (env := ce) (s := sd)
    (R := compPost (model X.prog X.w) X.A X.xe none (fun v s' => ∃ u H', Inv X pins σ H' s' ∧ L2.RelV u v ∧ Q u H') (.ref d) sc.heap.objs.size)
    (fun n s' => ∃ i H', Inv (X.blk sc Hc scope ce fp) [] (L2.wipe σ (own.map (·.2))) H' s' ∧ tn i s'.heap ∧ (∀ b ∈ fp, H' b = none) ∧ St i n H') ?turn m0 ⟨0, Hc, start, hereD, fun b hb => (fpc b hb).1.1, by rw [eHc]; exact st0⟩
  case turn =>
    rintro n se ⟨i, He, Je, hereE, freeE, stE⟩
    cases turn i n He stE with
    | inl done =>
      obtain ⟨stop, fin⟩ := done
      refine thnF (T.done (X.blk sc Hc scope ce fp) rfl rfl rfl calm i [] se _ He (fun _ _ => False) Je (iters Je freeE) hereE stop) ?_
      rintro r sf ⟨rfl, Jf⟩
      have JX := back _ _ _ _ Jf
      have own2 : He sc.heap.objs.size = none := by
        have z : He ce.locals = none := Jf.free
        rwa [loc] at z
      obtain ⟨m, ns, _⟩ := Jf.loc
      have ns : sf.heap.Ns ce.locals m := ns
      rw [loc] at ns
      refine ⟨m, ns, fun h2 same => ?_⟩
      obtain ⟨b0, b1, b2, b3, b4, b5⟩ := Jc.fpOk (Nat.le_refl _) own2
      exact ⟨.ref d, He, JX.turned (t' := sf.toks) (fun b o nb e => (same.2 b nb).trans e) b0 b1 b3 b4 b5, rfl, fin⟩
    | inr more =>
      obtain ⟨go, Nx, next, step⟩ := more
      refine thnF (T.item (X.blk sc Hc scope ce fp) rfl rfl rfl calm i [] se _ He (fun _ _ => False) Je (iters Je freeE) hereE go) ?_
      rintro r sf ⟨u, rfl, item⟩
      refine thnF item ?_
      rintro _ sg ⟨x, Hg, Jg, rel, yld, hereG, freeG⟩
      have Jp := Jg.pinned (iters Jg freeG) (T.obj _ _ hereG)
      refine thnF (tgt.run _ sg _ Hg x u _ Jp rel (step x Hg yld)) ?_
      rintro _ sh ⟨τ, Hh, Jh, wiped, qh⟩
      refine wpAny_tests_nil ?_
      rw [if_pos rfl]
      refine thnF ((elem back).run _ sh τ Hh _ Jh qh) ?_
      rintro z si ⟨y, Hi, Ji, relY, acc, atD, room, nx⟩
      refine app_ok (X := X.blk sc Hc scope ce fp) Ji atD room relY ?_
      intro sj Jj
      obtain ⟨m', less, st'⟩ := next _ nx
      have kept : ∀ b ∈ fp, ∀ o, sg.heap.get? b = some o → sj.heap.get? b = some o ∧ upd Hi d (.lst (acc ++ [y])) b = none := by
        intro b hb o e
        have z := Jj.pin (b, o) (List.mem_append_right _ (List.mem_append_right _ (mem_pinsAt hb e)))
        exact ⟨z.1, z.2.1⟩
      have len : (L2.wipe σ (own.map (·.2))).length = τ.length := by rw [← wiped, wipe_length]
      refine ⟨m', less, i + 1, _, (Jj.unpinned (pins := [])).weak len ?_, T.keep _ _ _ hereG (fun b hb o e => (kept b hb o e).1), ?_, st'⟩
      · intro j v e
        rw [← wiped] at e
        exact (wipe_some e).1
      · intro b hb
        obtain ⟨o, e, _⟩ := T.obj _ _ hereG b hb
        exact (kept b hb o e).2
  exact codeAny_compStart_list loop (T.self X.A 0 _ _ _ hereD loop)
end
end FL
set_option Elab.async false
set_option linter.all false
set_option maxRecDepth 100000
set_option maxHeartbeats 2000000
/-! S33: try: act() / except C as n: m = n, act a kept lambda -/
namespace FL
open PySem PySem.Spec PyProof.Rows L2
section
variable {K : PySem.W.Frag} {fx : Fx} {Z Z' H H' : Hp} {ρ ρ' : Rho} {σ σ' : L2.St} {ex : List Addr} {ps : List (Option V)}
theorem slots_nil : ∀ {ps : List (Option V)} {σ : L2.St}, ps.length = σ.length → Slots K fx Z H ps (List.replicate σ.length .no) σ []
  | [], [], _ => .nil
  | p :: ps, x :: σ, h => .no (slots_nil (by simpa using h))
  | [], _ :: _, h => by simp at h
  | _ :: _, [], h => by simp at h
/-- nothing is known of any slot -/
theorem Wd.blank (x : Wd K fx Z H ρ σ ex) (h : σ'.length = σ.length) : Wd K fx Z H (List.replicate σ.length .no) σ' ex := by
  obtain ⟨fp, w⟩ := x
  have l := w.sl.lenρ
  have s : List.Sublist ([] ++ ex) (fp ++ ex) := by simp
  refine ⟨[], ?_, w.nd.sublist s, fun a ha => w.zn a (s.subset ha), fun a ha => w.th a (s.subset ha), fun a ha => w.nt a (s.subset ha), w.xn, w.zh, w.kp, w.zf, w.dm, w.tb⟩
  rw [← h]
  exact slots_nil (by omega)
/-- a frame of data alone, entered; left -/
theorem Wd.enter (z : Zle Z H) (s : Slots K ⟨Z, H, [], ps, []⟩ Z H ps ρ σ []) : Wd K ⟨Z, H, [], ps, []⟩ Z H ρ σ [] :=
  ⟨[], s, .nil, (fun _ h => nomatch h), (fun _ h => nomatch h), (fun _ h => nomatch h), (fun _ h => nomatch h), z, fun _ _ e _ => e, fun _ _ e => .inl e, fun _ h => h, (fun _ h => nomatch h)⟩
theorem Wd.left (z : Zle Z Z') (x : Wd K ⟨Z, H, [], ps, []⟩ Z' H' ρ' σ' ex) : Gr Z H Z' H' := by
  obtain ⟨fp, w⟩ := x
  exact ⟨z, fun a o e => w.kp a o e (by simp), w.zh, fun a o e => w.zf a o e⟩
end
/-- act(), the name in slot i: f with its code k, the body's reading te over the maker's slots σm -/
def tKept (i : Nat) (f k : Addr) (u v : HO) (σm : L2.St) (te : TE) : TE := fun τ H Q => τ[i]? = some (some (.ref f)) ∧ H f = some u ∧ H k = some v ∧ te σm H Q
def tActS (g : Gm) (lscope : Scope) (lbody : Expr) (kL i : Nat) (f k : Addr) (u v : HO) (σm : L2.St) (W : WX) : TS := fun D τ H =>
  ∃ (E : XK) (te : TE), (∀ cls d σ' H', E cls d H' → W cls d σ' H') ∧ (∀ Y, Is (g.lam lscope kL E) Y → PE Y lbody te) ∧ tDrop (tKept i f k u v σm te) D τ H
section
variable {g : Gm} {X : Cx} {pins : List (Addr × Obj)} {σm : L2.St} {H0 : Hp} {s : Shared}
theorem pss_act {CXg : CXT} {Eg : XK} {Ng : List Str} {qg : Str} {sg : Scope} {gf f k : Addr} {cdg : Value} {params : Arguments} {body : Expr} {scope : Scope} {j i : Nat} {a : Str} {pn : List (Addr × Obj)} {xe : Value → Shared → Prop} {W : WX} {p1 p2 p3 : Pos}
    (is : Is g X) (I : Inv X pins σm H0 s) (L : LamX.LamS X.env.scope scope)
    (none_ : ∀ pm ct : Value, bindArgs (PySem.W.kla_fn "<lambda>" (X.env.qual ++ "<lambda>") params body scope (cloFrom X.env.cells scope.names []) pm (.ref k) ct) ⟨[], []⟩ = pure [])
    (tk : Takes ((cxOf CXg X.prog X.w X.K X.mg X.base Ng qg sg gf cdg X.A X.stack s H0 Eg).tr pn xe) W) (room : Room (j + 1) (X.A.deeper (envOfC qg sg s.heap.objs.size gf cdg)))
    (hN : Ng[i]? = some a) (hv : Vis sg a) (hd : (a == ("__debug__" : Str)) = false := by decide) (hcd : (a == ("__classdict__" : Str)) = false := by decide) (hs : ∀ env, swapsWith (.Call (.Name a p1) [] [] p2) none p3.line env = pure false := by intro _; rfl) :
    PSs ((cxOf CXg X.prog X.w X.K X.mg X.base Ng qg sg gf cdg X.A X.stack s H0 Eg).tr pn xe) [.Expr (.Call (.Name a p1) [] [] p2) p3]
      (tActS g scope body j i f k (FunOb (X.env.qual ++ "<lambda>") (cloFrom X.env.cells scope.names []) params body scope f k) (LamX.CodeO k (X.env.qual ++ "<lambda>")) σm W) := by
  constructor
  rintro pinsZ sZ τ H D IZ ⟨E, te, hE, rd, kept⟩
  have one := pss_one (ps_expr (pos := p3) (pe_kept (f := f) (p1 := p1) (p2 := p2) (te := te) I L none_ tk hE room (fun s1 H1 => rd _ (is.lam (room.deeper _))) hN hv hd hcd) (hs _))
  exact one.run pinsZ sZ τ H D IZ kept
end
/-- the slots behind it -/
def outTry (ts : List Str) (m : Nat) (r : R D) (ρ : Rho) : Option Out := match r with
  | .ok _ _ => some (.nx ρ)
  | .ex e _ => if e.fs.isNone = true ∧ ts.contains e.c = true then some (.nx ((List.replicate ρ.length .no).set m (.so false (.va (.exc e.c))))) else none
section
variable {g gW : Gm} {fx : Fx} {Z H : Hp} {ρ ρm : Rho} {τ σm : L2.St} {D' : Ends} {psm : List (Option V)}
theorem sem_try {scope : Scope} {body : Expr} {fl : F D} {r : R D} {i m e j : Nat} {f k : Addr} {u v : HO} {ts : List Str} {C : Value} {o : Out} (hK : gW.K = g.K) (hl : ∀ E, SE (g.lam scope j E) body fl)
    (w : Wd g.K fx Z H ρ τ []) (wm : Slots g.K ⟨Z, H, [], psm, []⟩ Z H psm ρm σm []) (hr : fl ρm = some r) (hts : ∀ c ∈ ts, PySem.W.exmOne g.K (.ref (He.ga g.K c)) C = some true)
    (hf : τ[i]? = some (some (.ref f))) (hu : H f = some u) (hv : H k = some v) (he : e < ρ.length) (hm : m < ρ.length) (hem : e ≠ m) (ho : outTry ts m r ρ = some o) (ok : OkS gW fx Z o D') :
    tActS g scope body j i f k u v σm (wKeep g.K C e τ.length (fun a cls d => tAsg (tVar e) (gName m)) D') D' τ H := by
  have lens := w.lens
  obtain ⟨te, pe, se⟩ := hl fun c d H' => match r with
    | .ex x _ => ∃ Z', Gr Z H Z' H' ∧ ExR g.K Z' H' x c d
    | .ok _ _ => False
  refine ⟨_, te, ?_, pe, hf, hu, hv, ?_⟩
  · intro cls d σ' H' hx
    cases r with
    | ok _ _ => exact hx.elim
    | ex x ρx =>
      obtain ⟨Z', gr, rfl, hd⟩ := hx
      simp only [outTry] at ho
      split at ho
      case isFalse => cases ho
      rename_i hc
      obtain ⟨hc1, hc2⟩ := hc
      rw [Option.isNone_iff_eq_none] at hc1
      rw [hc1] at hd
      have hd : d = none := hd
      subst hd
      cases ho
      refine ⟨hts _ (List.contains_iff_mem.mp hc2), fun a ha hlen => ⟨.ref a, by rw [List.getElem?_set_self (by omega)], ?_⟩⟩
      show D'.nx (((σ'.set e (some (.ref a))).set m (some (.ref a))).set e none) (upd H' a (.ext (ExcP a (.ref (He.ga g.K x.c)) none)))
      have w1 := (w.gr gr).blank (σ' := ((σ'.set e (some (.ref a))).set m (some (.ref a))).set e none) (by simp [hlen])
      have g2 := Gr.data (o := .ext (ExcP a (.ref (He.ga g.K x.c)) none)) gr.zh ha
      have w2 := w1.gr g2
      have rp : Rep g.K (upd Z' a (.ext (ExcP a (.ref (He.ga g.K x.c)) none))) (.ref a) (.exc x.c) := .exc upd_same
      have w3 := Wd.put (i := m) (f := []) w2 (.va rp) (by simp; omega)
      rw [set_self (((σ'.set e (some (.ref a))).set m (some (.ref a))).set e none) m (some (.ref a)) (by rw [List.getElem?_set_ne hem, List.getElem?_set_self (by simp; omega)])] at w3
      rw [lens] at ok
      exact ok _ _ _ (gr.z.trans g2.z) (by rw [hK]; exact w3)
  · refine se ⟨Z, H, [], psm, []⟩ Z H ρm σm [] (Wd.enter w.zh wm) r hr ?_ _ ?_
    · intro x ρx q c d Z' H' mv er
      subst q
      exact ⟨Z', Wd.left mv.z mv.wd, er⟩
    · intro d ρx q y Z' H' mv _
      subst q
      cases ho
      have gr := Wd.left mv.z mv.wd
      have w1 := w.gr gr
      exact ok _ _ _ gr.z (by rw [hK]; exact w1)
end
end FL
set_option Elab.async false
set_option linter.all false
set_option maxRecDepth 100000
set_option maxHeartbeats 2000000
/-! S34: a lambda's value, as data; kept in a list -/
namespace FL
open PySem PySem.Spec PyProof.Rows L2
section
variable {K : PySem.W.Frag} {fx : Fx} {Z H : Hp} {ρ : Rho} {σ : L2.St} {ex : List Addr} {P : Addr} {q : Str}
theorem Tb.at_ (t : Tb fx P q) (w : Wd K fx Z H ρ σ ex) : ∃ ps, H P = some (.tbl ps) := by
  obtain ⟨fp, w⟩ := w
  obtain ⟨ps, h, _⟩ := w.tb _ t.mem
  exact ⟨ps, h⟩
theorem Tb.z (t : Tb fx P q) (w : Wd K fx Z H ρ σ ex) : Z P = none := by
  obtain ⟨ps, hp⟩ := t.at_ w
  obtain ⟨fp, w⟩ := w
  cases e : Z P with
  | none => rfl
  | some o =>
    have e1 := w.zh P o e
    rw [hp] at e1
    obtain rfl : HO.tbl ps = o := Option.some.inj e1
    rcases w.zf P _ e with h | h | h
    · rw [t.z0] at h; cases h
    · exact absurd h t.h0
    · rcases h with ⟨vs, h⟩ | ⟨c, r, h⟩
      · cases h
      · exact absurd h.symm (LamX.codeO_ne ps)
theorem code_not_tbl {c : Addr} {r : Str} {ps : Array Value} (h : HO.tbl ps = LamX.CodeO c r) : False := LamX.codeO_ne ps h.symm
/-- a lambda made -/
theorem sem_lamV {fo : Addr → Addr → HO} {Q : VK} (t : Tb fx P q) (w : Wd K fx Z H ρ σ ex)
    (k : ∀ f k Z' H', Zle Z Z' → Wd K fx Z' H' ρ σ ex → (∀ a ∈ ex, H' a = H a) → Rep K Z' (.ref f) (.fn f (fo f k) k (LamX.CodeO k q)) → Q (.ref f) H') : tLamV fx.T P q fo σ H Q := by
  have zP := t.z w
  obtain ⟨ps, hP⟩ := t.at_ w
  obtain ⟨fp, w⟩ := w
  refine ⟨w.tb, fun f c H1 keep new tabs atc nf nf1 => ?_⟩
  obtain ⟨ps1, hP1, _⟩ := tabs _ t.mem
  have hP1 : H1 P = some (.tbl ps1) := hP1
  have ncP : c ≠ P := by
    rintro rfl
    rw [hP1] at atc
    exact code_not_tbl (Option.some.inj atc)
  have nfP : f ≠ P := by rintro rfl; rw [hP] at nf; cases nf
  have nfc : f ≠ c := by rintro rfl; rw [atc] at nf1; cases nf1
  have z2 : ∀ a o, Z a = some o → a ≠ P ∧ a ≠ f ∧ H1 a = some o := fun a o e => by
    have n : a ≠ P := by rintro rfl; rw [zP] at e; cases e
    have e1 := w.zh a o e
    refine ⟨n, ?_, keep a o e1 n⟩
    rintro rfl
    rw [nf] at e1; cases e1
  have atC : ∀ o, H c = some o → o = LamX.CodeO c q := fun o e => by
    have := keep c o e ncP
    rw [atc] at this
    exact (Option.some.inj this).symm
  have own : ∀ a ∈ fp ++ ex, a ≠ P ∧ a ≠ f ∧ a ≠ c ∧ H1 a = H a := fun a ha => by
    have th := w.th a ha
    have n1 : a ≠ P := by rintro rfl; exact w.nt _ ha _ (NOwn.tbl ps) hP
    have n3 : a ≠ c := by
      rintro rfl
      cases e : H a with
      | none => exact th e
      | some o => exact w.nt a ha _ (.inr (.inr ⟨_, _, rfl⟩)) (by rw [e, atC o e])
    refine ⟨n1, by rintro rfl; exact th nf, n3, ?_⟩
    cases e : H a with
    | none => exact absurd e th
    | some o => rw [keep a o e n1]
  have le : Zle Z (upd (upd Z c (LamX.CodeO c q)) f (fo f c)) := fun a o e => by
    obtain ⟨n1, n2, e1⟩ := z2 a o e
    rw [upd_ne n2]
    by_cases hc : a = c
    · subst hc
      rw [upd_same]
      rw [atc] at e1
      exact e1
    · rw [upd_ne hc]; exact e
  have same : ∀ a ∈ fp ++ ex, upd H1 f (fo f c) a = H a := fun a ha => by
    obtain ⟨_, n2, _, e⟩ := own a ha
    rw [upd_ne n2, e]
  refine k f c _ _ le ⟨fp, ?_⟩ (fun a ha => same a (List.mem_append_right _ ha)) (.fn upd_same (by rw [upd_ne (Ne.symm nfc), upd_same]))
  refine ⟨w.sl.keep le fun a ha => same a (List.mem_append_left _ ha), w.nd, fun a ha => ?_, fun a ha => ?_, fun a ha u hu => ?_, w.xn, fun a o e => ?_, fun a o e n => ?_, fun a o e => ?_, fun a n => ?_, ?_⟩
  · obtain ⟨_, n2, n3, _⟩ := own a ha
    rw [upd_ne n2, upd_ne n3]
    exact w.zn a ha
  · rw [same a ha]; exact w.th a ha
  · rw [same a ha]; exact w.nt a ha u hu
  · by_cases h1 : a = f
    · rw [h1, upd_same] at e ⊢; exact e
    · rw [upd_ne h1] at e ⊢
      by_cases h2 : a = c
      · rw [h2, upd_same] at e
        rw [h2, atc]; exact e
      · rw [upd_ne h2] at e
        exact (z2 a o e).2.2
  · have e1 := w.kp a o e n
    have n1 : a ≠ P := by rintro rfl; exact n t.f0
    have n2 : a ≠ f := by rintro rfl; rw [nf] at e1; cases e1
    rw [upd_ne n2]
    exact keep a o e1 n1
  · by_cases h1 : a = f
    · subst h1
      refine .inr (.inl ?_)
      cases e0 : fx.H0 a with
      | none => rfl
      | some u => exact absurd nf (w.dm a (by rw [e0]; exact fun z => nomatch z))
    · rw [upd_ne h1] at e
      by_cases h2 : a = c
      · rw [h2, upd_same] at e
        exact .inr (.inr (.inr ⟨_, _, (Option.some.inj e).symm⟩))
      · rw [upd_ne h2] at e
        exact w.zf a o e
  · have n0 := w.dm a n
    by_cases h1 : a = f
    · rw [h1, upd_same]; exact fun z => nomatch z
    · rw [upd_ne h1]
      by_cases h2 : a = P
      · rw [h2, hP1]; exact fun z => nomatch z
      · cases e : H a with
        | none => exact absurd e n0
        | some o => rw [keep a o e h2]; exact fun z => nomatch z
  · exact tabs.ext fun b o e => by
      rw [upd_ne]
      · exact e
      · rintro rfl; rw [nf1] at e; cases e
/-- x = [lambda: ..] -/
theorem sem_lam1 {fo : Addr → Addr → HO} {i : Nat} {D' : Ends} (t : Tb fx P q) (w : Wd K fx Z H ρ σ []) (hi : i < ρ.length)
    (k : ∀ f k Z' H' σ', Zle Z Z' → Wd K fx Z' H' (ρ.set i (.so false (.ls [.fn f (fo f k) k (LamX.CodeO k q)]))) σ' [] → D'.nx σ' H') : tAsg (tLst (tCons (tLamV fx.T P q fo) tNil)) (gName i) D' σ H := by
  show tLamV fx.T P q fo σ H (fun x H1 => [x].length ≤ sizeLine ∧ ∀ p, H1 p = none → gName i (.ref p) σ (upd H1 p (.lst [x])) D'.nx)
  refine sem_lamV t w fun f c Z1 H1 z1 w1 _ r1 => ⟨by show 1 ≤ sizeLine; decide, fun l hl => ?_⟩
  have w2 := w1.made (o := .lst [.ref f]) hl
  have w3 := Wd.put (i := i) (f := [l]) (ex := []) w2 (.ls upd_same (.one r1)) hi
  exact k f c _ _ _ z1 w3
/-- x.append(lambda: ..) -/
theorem sem_lamA {fo : Addr → Addr → HO} {i : Nat} {D' : Ends} {ds : List D} (t : Tb fx P q) (w : Wd K fx Z H ρ σ []) (hi : ρ[i]? = some (.so false (.ls ds))) (hl : ds.length < sizeLine)
    (k : ∀ f k Z' H', Zle Z Z' → Wd K fx Z' H' (ρ.set i (.so false (.ls (ds ++ [.fn f (fo f k) k (LamX.CodeO k q)])))) σ [] → D'.nx σ H') : tDrop (tBM K "list" rAppend (tVar i) (tCons (tLamV fx.T P q fo) tNil)) D' σ H := by
  obtain ⟨v0, f00, h0, r0, _⟩ := w.focus hi
  refine ⟨v0, h0, by cases r0 with | ls h1 h2 => exact .inl ⟨rfl, _, .of h1⟩, ?_⟩
  show tLamV fx.T P q fo σ H (fun x H1 => rAppend v0 [x] H1 fun _ H2 => D'.nx σ H2)
  refine sem_lamV t w fun f c Z1 H1 z1 w1 _ r1 => ?_
  obtain ⟨v, f0, g1, g2, g3, g4, _, _, g5⟩ := w1.focus hi
  obtain rfl : v = v0 := by rw [h0] at g1; exact (Option.some.inj (Option.some.inj g1)).symm
  refine own_append Z1 H1 v _ f0 _ [.fn f (fo f c) c (LamX.CodeO c q)] (.va .non) (.ls (ds ++ [.fn f (fo f c) c (LamX.CodeO c q)])) w1.zh g2 g4 (.one r1) (by simp [oAppend, hl]) _ fun u Z2 H2 f' fn ch rs _ => ?_
  obtain ⟨w2, _⟩ := g5 Z2 H2 _ f' fn ch rs
  have w3 : Wd K fx Z2 H2 _ σ [] := Wd.drop w2
  exact k f c _ _ (z1.trans ch.z) w3
end
end FL
set_option Elab.async false
set_option linter.all false
set_option maxRecDepth 100000
set_option maxHeartbeats 2000000
/-! S35: [e for x in xs], xs an own list in a slot, e looked at by hand -/
namespace FL
open PySem PySem.Spec PyProof.Rows L2
section
variable {g : Gm} {fx : Fx} {Z H : Hp} {ρ : Rho} {σ : L2.St}
theorem sem_each {wi : TI} {te : TE} {ia ie : Nat} {fs : List D} {ws : List Str} {Q : VK} (si : SemI g wi (fItems (fVarF ia))) (w : Wd g.K fx Z H ρ σ []) (hi : ρ[ia]? = some (.so false (.ls fs))) (hn : fs.length ≤ sizeLine) (hl : ws.length = fs.length)
    (he : ∀ (j : Nat) (d : D) (s : Str), fs[j]? = some d → ws[j]? = some s → ∀ Z' H' v, Zle Z Z' → Zle Z' H' → (∀ a o, fx.H0 a = some o → a ∉ fx.F0 → H' a = some o) → Rep g.K Z' v d → ∀ R : VK, (∀ u Z2 H2, Gr Z' H' Z2 H2 → Rep g.K Z2 u (.str s) → R u H2) → te ((L2.wipe σ [ie]).set ie (some v)) H' R)
    (k : ∀ p Z' H', Zle Z Z' → Wd g.K fx Z' H' (ρ.set ia (.so false (.va (.lst fs)))) σ [p] → RepW g.K Z' H' (.ref p) (.ls (ws.map .str)) [p] → Q (.ref p) H') : tLc wi (gName ie) tYes te [ie] σ H Q := by
  have e0 : fItems (fVarF ia) ρ = some (.ok fs (ρ.set ia (.so false (.va (.lst fs))))) := by
    simp [fItems, F.bind, fVarF, hi, frz, F.of, items?, sqT?, sqL?, sq?]
  refine si fx Z H ρ σ [] w _ e0 (fun _ _ z => nomatch z) _ fun ds ρ1 z J Z1 H1 m1 wk d hd => ?_
  injection z with z1 z2
  subst z1 z2
  obtain ⟨w1, f1⟩ := m1.new (o := .lst []) hd
  have len : ∀ i : Nat, i < fs.length → ∃ x s, fs[i]? = some x ∧ ws[i]? = some s := fun i hi => ⟨_, _, List.getElem?_eq_getElem hi, List.getElem?_eq_getElem (by omega)⟩
  refine ⟨fun i m H' => m = fs.length - i ∧ i ≤ fs.length ∧ ∃ Z' vs, Zle Z1 Z' ∧ Wd g.K fx Z' H' (ρ.set ia (.so false (.va (.lst fs)))) σ [d] ∧ H' d = some (.lst vs) ∧ Reps g.K Z' vs ((ws.take i).map .str), ⟨fs.length, by simp, Nat.zero_le _, Z1, [], .refl _, w1, upd_same, .nil⟩, ?_⟩
  rintro i m H' ⟨rfl, hle, Z', vs, z1, w', at_, rp⟩
  by_cases hlt : i < fs.length
  case neg =>
    have ei : i = fs.length := by omega
    subst ei
    refine .inl ⟨wk.stop _ Z' H' z1 w'.zh rfl, ?_⟩
    rw [← hl, List.take_length] at rp
    exact k d Z' H' (m1.z.trans z1) w' (.ls at_ rp)
  obtain ⟨x, s, hx, hs⟩ := len i hlt
  refine .inr ⟨wk.go i _ hx Z' H' z1 w'.zh, fun H2 => ∃ Z2 vs2, Zle Z1 Z2 ∧ Wd g.K fx Z2 H2 (ρ.set ia (.so false (.va (.lst fs)))) σ [d] ∧ H2 d = some (.lst vs2) ∧ Reps g.K Z2 vs2 ((ws.take (i + 1)).map .str),
    fun H2 ⟨Z2, vs2, a, b, c, r⟩ => ⟨fs.length - (i + 1), by omega, rfl, hlt, Z2, vs2, a, b, c, r⟩, fun v H2 y => ?_⟩
  obtain ⟨Z2, g2, rv⟩ := wk.yld i _ hx Z' H' v H2 z1 w'.zh y
  have w2 := w'.gr g2
  refine ⟨?_, ?_⟩
  · exact wipe_ext (by simp [wipe_length]) fun j hj => by
      have : j ≠ ie := by simpa using hj
      rw [List.getElem?_set_ne (Ne.symm this)]
      exact wipe_out (by simpa using hj)
  simp only [tYes, reduceIte]
  have kp : ∀ a o, fx.H0 a = some o → a ∉ fx.F0 → H2 a = some o := fun a o e n => by obtain ⟨fp, h⟩ := w2; exact h.kp a o e n
  refine he i x s hx hs Z2 H2 v ((m1.z.trans z1).trans g2.z) w2.zh kp rv _ fun u Z3 H3 g3 ru => ?_
  have at3 : H3 d = some (.lst vs) := g3.h _ _ (g2.h _ _ at_)
  have lv : vs.length ≤ i := by have := rp.length; simp at this; omega
  have w3 := w2.gr g3
  have hw : (ws.take (i + 1)).map D.str = (ws.take i).map D.str ++ [.str s] := by
    rw [List.take_add_one, hs]; simp
  refine ⟨vs, at3, by omega, Z3, vs ++ [u], (z1.trans g2.z).trans g3.z, (Wd.updEx (a := d) (ex := []) w3).1, upd_same, ?_⟩
  rw [hw]
  exact (rp.mono (g2.z.trans g3.z)).append (.one ru)
end
end FL
set_option Elab.async false
set_option linter.all false
set_option maxRecDepth 100000
set_option maxHeartbeats 2000000
/-! S36: f(act) in a comprehension's block; f tries act() and tells what came -/
namespace FL
open PySem PySem.Spec PyProof.Rows L2
structure LamI where
  params : Arguments
  body : Expr
  scope : Scope
  fl : F D
def LamI.obj (L : LamI) (q : Str) (cells : List (Str × Addr)) (f k : Addr) : HO := FunOb q (cloFrom cells L.scope.names []) L.params L.body L.scope f k
section
variable {g : Gm} {NW : List Str} {scW : Scope} {qw : Str}
/-- what is said of the maker's lambdas -/
structure LamsOk (g : Gm) (j : Nat) (lams : List LamI) : Prop where
  sc : ∀ L ∈ lams, LamX.LamS g.sc L.scope
  bind : ∀ L ∈ lams, ∀ (q : Str) (cl : List (Str × Addr)) (pm cv ct : Value), bindArgs (PySem.W.kla_fn "<lambda>" q L.params L.body L.scope cl pm cv ct) ⟨[], []⟩ = pure []
  body : ∀ L ∈ lams, ∀ E, SE (g.lam L.scope j E) L.body L.fl
theorem word_call {fW : Addr} {fd : FuncData} {args : Arguments} {body rest : List Stmt} {st0 : Stmt} {p1 p2 p3 p4 p5 p6 p7 p8 np : Pos} {x y a n m : Str} {j e mm : Nat} {f0 f2 : FS} {lams : List LamI} {ts : List Str} {scope : Scope} {iy : Nat} {q : Str}
    (F : FunD g.K x x args body scW [] [] fW fd) (S : FnScope NW [a] scW) (hm : g.mg x = some (.ref fW)) (hb : L2.Binds g.K fd [a] [])
    (eb : body = st0 :: .Try [.Expr (.Call (.Name a p1) [] [] p2) p3] [.ExceptHandler (some (.Name "LayoutError" np)) (some n) [.Assign [.Name m p7] (.Name n p8) p4] p5] [] [] p6 :: rest)
    (h0 : SS (gmOf g.P g.w g.K g.mg g.base NW scW (j + 1) fun _ _ _ => False) st0 f0) (h2 : SSs (gmOf g.P g.w g.K g.mg g.base NW scW (j + 1) fun _ _ _ => False) rest f2)
    (ok : LamsOk g j lams) (hj : j + 2 ≤ g.k)
    (ha : NW[0]? = some a) (va : Vis scW a) (hn : NW[e]? = some n) (ln : scW.names.lookup n = some .local) (hmm : NW[mm]? = some m) (lm : scW.names.lookup m = some .local) (hem : e ≠ mm) (le : scW.names.lookup ("LayoutError" : Str) = some .globalImplicit) (me : g.mg "LayoutError" = some (.ref (He.ga g.K "LayoutError")))
    (hts : ∀ c ∈ ts, PySem.W.exmOne g.K (.ref (He.ga g.K c)) (.ref (He.ga g.K "LayoutError")) = some true)
    (gx : (g.blk scope).sc.names.lookup x = some .globalImplicit) (hy : g.N[iy]? = some y) (vy : Vis (g.blk scope).sc y)
    (d1 : (x == ("__debug__" : Str)) = false := by decide) (d2 : (y == ("__debug__" : Str)) = false := by decide) (d3 : (y == ("__classdict__" : Str)) = false := by decide) (d4 : (a == ("__debug__" : Str)) = false := by decide) (d5 : (a == ("__classdict__" : Str)) = false := by decide) (d6 : (n == ("__debug__" : Str)) = false := by decide) (d7 : (n == ("__classdict__" : Str)) = false := by decide)
    {q1 q2 q3 : Pos} (w1 : ∀ env, swapsWith (.Call (.Name a p1) [] [] p2) none p3.line env = pure false := by intro _; rfl) (w2 : ∀ env, swapsWithSole [.Name m p7] (.Name n p8) p4.line env = pure false := by intro _; rfl) (w3 : ∀ env, swappedStores [.Name m p7] (.Name n p8) env = pure none := by intro _; rfl) :
    ∃ te : List (Str × Addr) → L2.St → TE,
      (∀ X, Is g X → X.env.qual ++ "<lambda>" = q → ∀ pins σm s H C cl fp, Behind X pins σm (X.blk s H scope (compEnvC scope cl C X.env) fp) → PE (X.blk s H scope (compEnvC scope cl C X.env) fp) (.Call (.Name x q1) [.Name y q2] [] q3) (te X.env.cells σm)) ∧
      (∀ cells (σm : L2.St) Z H f k v L ρm psm (τ : L2.St) r ρ1 ρ2 ρ' s, L ∈ lams → τ[iy]? = some (some (.ref f)) → Rep g.K Z (.ref f) (.fn f (L.obj q cells f k) k v) → v = LamX.CodeO k q → Zle Z H →
        (∀ Z' H', Zle Z Z' → Slots g.K ⟨Z', H', [], psm, []⟩ Z' H' psm ρm σm []) → L.fl ρm = some r → f0 fuel (initP NW.length [.fn f (L.obj q cells f k) k v]) = some (.nx ρ1) → ρ1.length = NW.length → ρ1[0]? = some (.so false (.va (.fn f (L.obj q cells f k) k v))) → outTry ts mm r ρ1 = some (.nx ρ2) → f2 fuel ρ2 = some (.rt (.va (.str s)) ρ') →
        ∀ Q : VK, (∀ u Z2 H2, Gr Z H Z2 H2 → Rep g.K Z2 u (.str s) → Q u H2) → te cells σm τ H Q) := by
  obtain ⟨t0, pt0, sem0⟩ := h0
  obtain ⟨t2, pt2, sem2⟩ := h2
  have nl : 1 ≤ NW.length := by
    cases NW with
    | nil => cases ha
    | cons => simp
  refine ⟨fun cells σm τ H Q => ∃ f k L, L ∈ lams ∧ τ[iy]? = some (some (.ref f)) ∧ H f = some (L.obj q cells f k) ∧ H k = some (LamX.CodeO k q) ∧
    tSeq t0 (tSeq (fun D τ H => tActS g L.scope L.body j 0 f k (L.obj q cells f k) (LamX.CodeO k q) σm (wKeep g.K (.ref (He.ga g.K "LayoutError")) e NW.length (fun a cls d => tAsg (tVar e) (gName mm)) D) D τ H) t2) { nx := fun _ H' => Q .non H', rt := Q } (L2.start NW [.ref f]) H, ?_, ?_⟩
  · intro X is hq pins σm s H C cl fp back
    constructor
    rintro pins' s' τ H' Q I ⟨f, k, L, hL, hτ, hf, hk, hbody⟩
    have IB : Is (g.blk scope) (X.blk s H scope (compEnvC scope cl C X.env) fp) := is.blk scope s H cl C fp
    have hK : X.K = g.K := is.K
    refine wpAny_Call_Name_kw (ld_glob I (IB.gl gx) (by show X.mg x = _; rw [is.mg]; exact hm) ?_ d1)
    refine PySem.W.callWith_K (h₀ := X.base) I.ok.mod.kin (by show PySem.W.keepIn X.K _ = true; rw [hK]; exact F.kp) ?_ (by rfl) (by rfl)
    have args := (pa_cons (pe_var (X := X.blk s H scope (compEnvC scope cl C X.env) fp) (pos := q2) (i := iy) (by show X.N[iy]? = _; rw [is.N]; exact hy) (IB.vis vy) d2 d3) pa_nil rfl).run q3 pins' s' τ H' (fun vs H1 => vs = [.ref f] ∧ H1 = H') I ⟨_, hτ, rfl, rfl⟩
    refine thn args fun us s1 ⟨vs, H1, I1, rv, evs, eH⟩ => ⟨I1.kIn, ?_⟩
    subst evs eH
    obtain ⟨oc, od, dV, kV, doc, pm, an, cdv, ct, osl, efd, lk, hcd, _, _⟩ := F.ex
    have hl := rv.length
    have J := back _ _ _ _ I1
    have rc : codeAny (model X.prog X.w) X.A (.call (.ref fW) ⟨us, []⟩) (CR (L2.CX X.prog X.w) X.stack X.prog X.w H1 s1 Q fun _ _ _ => False) s1 := by
      have bb : BindsTo s1 fd ⟨us, []⟩ ([a].zip us) := by
        have := hb s1 us (by have := I1.kIn; rw [← hK]; exact this) (by rw [List.append_nil]; exact hl.symm)
        rwa [List.append_nil] at this
      have e0 : Env0 X.prog X.w X.K X.mg X.base X.A X.stack s1 H1 := I1.env0
      rw [hK] at e0
      have e0' := e0
      rw [← hK] at e0
      subst efd
      rw [← hK] at lk hcd
      refine LamX.run_ofS (N := NW) (ps := [a]) (us := us) (vs := [.ref f]) lk hcd S (k := j + 1) (is.room.mono hj) e0 bb rv rfl fun hr => ?_
      refine ⟨_, ?_, hbody⟩
      rw [eb]
      have isW : Is (gmOf X.prog X.w X.K X.mg X.base NW scW (j + 1) fun _ _ _ => False) (cxOf (L2.CX X.prog X.w) X.prog X.w X.K X.mg X.base NW x scW fW cdv X.A X.stack s1 H1 fun _ _ _ => False) := is_cx S hr
      have isW' : Is (gmOf g.P g.w g.K g.mg g.base NW scW (j + 1) fun _ _ _ => False) (cxOf (L2.CX X.prog X.w) X.prog X.w X.K X.mg X.base NW x scW fW cdv X.A X.stack s1 H1 fun _ _ _ => False) := by
        rw [← is.prog, ← is.w, ← is.K, ← is.mg, ← is.base]; exact isW
      refine pss_cons (pt0 _ isW') (pss_cons ?_ (pt2 _ isW'))
      have tr := ps_try_keep (X := cxOf (L2.CX X.prog X.w) X.prog X.w X.K X.mg X.base NW x scW fW cdv X.A X.stack s1 H1 fun _ _ _ => False) (x := "LayoutError") (n := n) (c := .ref (He.ga g.K "LayoutError")) (i := e)
        (body := [.Expr (.Call (.Name a p1) [] [] p2) p3]) (first := .Assign [.Name m p7] (.Name n p8) p4) (rest := []) (np := np) (p1 := p6) (p2 := p5)
        (tb := tActS g L.scope L.body j 0 f k (L.obj q X.env.cells f k) (LamX.CodeO k q) σm) (ts := fun a cls d => tAsg (tVar e) (gName mm))
        rfl rfl S.nd hn ln ⟨le, by decide, .inl (by show X.mg _ = _; rw [is.mg]; exact me)⟩ (fun W pn xe tk _ => ?_) (fun a' o cls d pn hz hd => ?_)
      · rw [← hK]
        rw [← hK] at tr
        exact tr
      · have act := pss_act (params := L.params) (p1 := p1) (p2 := p2) (p3 := p3) (f := f) (k := k) (i := 0) (j := j) (body := L.body) is J (by rw [is.sc]; exact ok.sc L hL) (fun pm ct => ok.bind L hL _ _ _ _ _) tk hr ha va d4 d5 w1
        rw [hq] at act
        exact act
      · exact pss_one (ps_asg (pe_var (i := e) hn (.inl ln) d6 d7) (pg_name (i := mm) S.nd hmm (.inl lm)) (w2 _) (w3 _))
    refine wpAny_call (codeAny_mono rc fun r s2 hq => ?_)
    cases r with
    | error er =>
      obtain ⟨_, _, _, _, _, _, _, _, _, _, _, _, z⟩ := hq
      exact z.elim
    | ok fl =>
      cases fl with
      | ret u => exact I1.after hq
      | next => exact False.elim hq
      | brk => exact False.elim hq
      | cont => exact False.elim hq
  · intro cells σm Z H f k v L ρm psm τ r ρ1 ρ2 ρ' s hL hτ rp ev zh hm' hr o1 l1 g1 o2 o3 Q hQ
    subst ev
    have rp0 := rp
    cases rp with
    | fn hu hv =>
    refine ⟨f, k, L, hL, hτ, zh _ _ hu, zh _ _ hv, ?_⟩
    have w0 := wd_initP (H := H) (N := NW) zh (Reps.one rp0) (by simpa using nl)
    have K0 : (gmOf g.P g.w g.K g.mg g.base NW scW (j + 1) fun _ _ _ => False).K = g.K := rfl
    refine sem0 _ Z H _ _ w0 fuel _ o1 _ ?_
    intro Z1 H1 σ1 z1 w1
    have lt : ∀ {i : Nat} {z : Str}, NW[i]? = some z → i < NW.length := fun {i z} e => by
      cases Nat.lt_or_ge i NW.length with
      | inl h => exact h
      | inr h => rw [List.getElem?_eq_none h] at e; cases e
    obtain ⟨v1, e1, r1⟩ := w1.get g1
    have ev1 : v1 = .ref f := by cases r1; rfl
    subst ev1
    have l2 : NW.length = σ1.length := by rw [← l1]; exact w1.lens
    rw [l2]
    refine sem_try (g := g) (gW := gmOf g.P g.w g.K g.mg g.base NW scW (j + 1) fun _ _ _ => False) (ρm := ρm) (psm := psm) rfl (ok.body L hL) w1 ?_ hr hts e1 ((w1.zh _ _ (z1 _ _ hu))) (w1.zh _ _ (z1 _ _ hv)) (by rw [l1]; exact lt hn) (by rw [l1]; exact lt hmm) hem o2 ?_
    · exact hm' Z1 H1 z1
    · intro Z2 H2 σ2 z2 w2
      refine sem2 _ Z2 H2 _ _ w2 fuel _ o3 _ ?_
      intro u Z3 H3 σ3 fp z3 w3 rw3
      cases rw3 with
      | va ru =>
        exact hQ u Z3 H3 (Wd.left ((z1.trans z2).trans z3) w3) ru
end
end FL
set_option Elab.async false
set_option linter.all false
set_option maxRecDepth 100000
set_option maxHeartbeats 2000000
/-! S37: isinstance of a kept exception, as data -/
namespace FL
open PySem PySem.Spec PyProof.Rows L2
structure IsKF (K : PySem.W.Frag) (ts : List Str) : Prop where
  c : ∀ c ∈ ts, ExcC K (He.ga K c)
  v : ∀ c ∈ ts, PySem.W.kitOne K (.ref (He.ga K c)) (.type "ValueError") = some true
  o : ∀ c ∈ ts, ∀ d ∈ ts, PySem.W.kitOne K (.ref (He.ga K c)) (.ref (He.ga K d)) = some (c == d)
def oIsK (ts : List Str) : List D → Option D
  | [.exc c, .cls d] => if ts.contains c = true ∧ ts.contains d = true then some (.bl (c == d)) else none
  | [.exc c, .ty n] => if ts.contains c = true ∧ n = "ValueError" then some (.bl true) else none
  | _ => none
def rIsKs (K : PySem.W.Frag) (ts : List Str) : List V → Hp → VK → Prop := fun xs H Q => ∃ c ∈ ts, rIsK K (He.ga K c) xs H Q
theorem cad_isK {K : PySem.W.Frag} {ts : List Str} (h : IsKF K ts) : CaD K (rIsKs K ts) (oIsK ts) := fun Z H xs ds d z rs e Q k => by
  unfold oIsK at e
  split at e
  · rename_i c d0
    split at e
    case isFalse => cases e
    rename_i q
    cases e
    have q1 := List.contains_iff_mem.mp q.1
    have q2 := List.contains_iff_mem.mp q.2
    cases rs with
    | cons r1 rs =>
      cases rs with
      | cons r2 rs =>
        cases rs
        cases r2
        cases r1 with
        | exc ha => exact ⟨c, q1, _, _, _, _, rfl, z _ _ ha, fun u r => r, h.o c q1 d0 q2, k.now z (.bl _)⟩
  · rename_i c n
    split at e
    case isFalse => cases e
    rename_i q
    cases e
    have q1 := List.contains_iff_mem.mp q.1
    cases rs with
    | cons r1 rs =>
      cases rs with
      | cons r2 rs =>
        cases rs
        cases r2
        cases r1 with
        | exc ha => exact ⟨c, q1, _, _, .type n, _, rfl, z _ _ ha, fun u r => r, by rw [q.2]; exact h.v c q1, k.now z (.bl _)⟩
  · cases e
theorem bi_isK {g : Gm} {ts : List Str} (h : IsKF g.K ts) : Bi g "isinstance" (rIsKs g.K ts) (oIsK ts) := ⟨fun X is => by
  rw [← is.K] at h ⊢
  rintro pins s σ H xs us Q I r ⟨c, hc, hr⟩
  exact call_isK (h.c c hc) pins s σ H xs us Q I r hr, cad_isK h⟩
/-- what the head says -/
def excCB (K : PySem.W.Frag) (D : Addr) : Bool := decide (PySem.W.findIn K (.ref D) "__getattribute__" = some (some (.builtin "BaseException.__getattribute__"))) && (decide (PySem.W.findIn K (.ref D) "__getattr__" = some none) && (decide (PySem.W.subIn K (.ref D) (.type "BaseException") = some true) &&
  (PySem.W.hasDictIn K D && (decide (PySem.W.findIn K (.ref D) "__class__" = some (some (.builtin "object.__class__"))) && (decide (PySem.W.specialIn K (.builtin "object.__class__") "__get__" = some (some (.builtin "getset_descriptor.__get__"))) &&
  (decide (PySem.W.takesIn K (.builtin "object.__class__") = some true) && decide (PySem.W.mroIn K D (.type "object") = some true)))))))
def isKB (K : PySem.W.Frag) (ts : List Str) : Bool := ts.all (fun c => excCB K (He.ga K c)) && (ts.all (fun c => decide (PySem.W.kitOne K (.ref (He.ga K c)) (.type "ValueError") = some true)) && ts.all (fun c => ts.all fun d => decide (PySem.W.kitOne K (.ref (He.ga K c)) (.ref (He.ga K d)) = some (c == d))))
theorem isK_of {K : PySem.W.Frag} {ts : List Str} (h : isKB K ts = true) : IsKF K ts := by
  unfold isKB at h
  rw [Bool.and_eq_true, Bool.and_eq_true] at h
  obtain ⟨h1, h2, h3⟩ := h
  refine ⟨fun c hc => ?_, fun c hc => of_decide_eq_true (List.all_eq_true.mp h2 c hc), fun c hc d hd => of_decide_eq_true (List.all_eq_true.mp (List.all_eq_true.mp h3 c hc) d hd)⟩
  have := List.all_eq_true.mp h1 c hc
  unfold excCB at this
  simp only [Bool.and_eq_true, decide_eq_true_eq] at this
  obtain ⟨a1, a2, a3, a4, a5, a6, a7, a8⟩ := this
  exact ⟨a1, a2, a3, a4, a5, a6, a7, a8⟩
/-- exceptions of these classes are taken by the clause's class -/
def exmB (K : PySem.W.Frag) (ts : List Str) (b : Str) : Bool := ts.all fun c => decide (PySem.W.exmOne K (.ref (He.ga K c)) (.ref (He.ga K b)) = some true)
theorem exm_ofB {K : PySem.W.Frag} {ts : List Str} {b : Str} (h : exmB K ts b = true) : ∀ c ∈ ts, PySem.W.exmOne K (.ref (He.ga K c)) (.ref (He.ga K b)) = some true := fun c hc => of_decide_eq_true (List.all_eq_true.mp h c hc)
end FL
set_option Elab.async false
set_option linter.all false
set_option maxRecDepth 100000
set_option maxHeartbeats 2000000
/-! S38: a def that makes lambdas in a list and asks for a word of each -/
namespace FL
open PySem PySem.Spec PyProof.Rows L2
/-- the def of the name d (qualified name q ++ "<lambda>" of what it makes): a list of words; its table may have grown -/
def spPT (K : PySem.W.Frag) (d q : Str) (Fn : List D → Option (List Str)) : Sp := fun vs H Q E => ∃ Z ds ws T, Zle Z H ∧ Reps K Z vs ds ∧ Fn ds = some ws ∧ ((He.cT K (d, none)).2, q) ∈ T ∧ (∀ p ∈ T, p.1 = (He.cT K (d, none)).2 → p.2 = q) ∧ LamX.Tabs T H ∧ Z (He.cT K (d, none)).2 = none ∧
  ∀ p Z' H' ρ' σ' ps, Zle Z Z' → Wd K ⟨Z, H, [(He.cT K (d, none)).2], ps, T⟩ Z' H' ρ' σ' [p] → RepW K Z' H' (.ref p) (.ls (ws.map .str)) [p] → Q (.ref p) H'
section
variable {K : PySem.W.Frag} {fx : Fx} {Z Z' H H' : Hp} {ρ ρ' : Rho} {σ σ' : L2.St} {ex : List Addr} {P : Addr} {q : Str}
/-- behind such a def -/
theorem Wd.table {p : Addr} {ps : List (Option V)} (w : Wd K fx Z H ρ σ ex) (t : Tb fx P q) (zl : Zle Z Z') (w' : Wd K ⟨Z, H, [P], ps, fx.T⟩ Z' H' ρ' σ' [p]) : Wd K fx Z' H' ρ σ (p :: ex) ∧ ∀ a ∈ ex, H' a = H a := by
  have zP := t.z w
  obtain ⟨pt, hP⟩ := t.at_ w
  obtain ⟨fp, w⟩ := w
  obtain ⟨fp', w'⟩ := w'
  have kp : ∀ a o, H a = some o → a ≠ P → H' a = some o := fun a o e n => w'.kp a o e (by simpa using n)
  have pH : H p = none := w'.xn p (by simp)
  have own : ∀ a ∈ fp ++ ex, a ≠ P ∧ H' a = H a ∧ a ≠ p := fun a ha => by
    have th := w.th a ha
    have n1 : a ≠ P := by rintro rfl; exact w.nt _ ha _ (NOwn.tbl pt) hP
    refine ⟨n1, ?_, by rintro rfl; exact th pH⟩
    cases e : H a with
    | none => exact absurd e th
    | some o => rw [kp a o e n1]
  refine ⟨⟨fp, ?_⟩, fun a ha => (own a (List.mem_append_right _ ha)).2.1⟩
  have mem : ∀ a ∈ fp ++ (p :: ex), a = p ∨ a ∈ fp ++ ex := fun a ha => by
    simp only [List.mem_append, List.mem_cons] at ha ⊢; grind
  refine ⟨w.sl.keep zl fun a ha => (own a (List.mem_append_left _ ha)).2.1, ?_, fun a ha => ?_, fun a ha => ?_, fun a ha u hu => ?_, fun a ha => ?_, w'.zh, fun a o e n => ?_, fun a o e => ?_, fun a n => ?_, w'.tb⟩
  · have nd := w.nd
    have np : p ∉ fp ++ ex := fun h => (own p h).2.2 rfl
    simp only [List.nodup_append, List.nodup_cons, List.mem_cons, List.mem_append, not_or] at nd np ⊢
    grind
  · rcases mem a ha with rfl | h
    · exact w'.zn _ (by simp)
    · cases e : Z' a with
      | none => rfl
      | some o =>
        rcases w'.zf a o e with y | y | y
        · have y : Z a = some o := y
          rw [w.zn a h] at y; cases y
        · exact absurd y (w.th a h)
        · have := w'.zh a o e
          rw [(own a h).2.1] at this
          exact absurd this (w.nt a h _ y.own)
  · rcases mem a ha with rfl | h
    · exact w'.th _ (by simp)
    · rw [(own a h).2.1]; exact w.th a h
  · rcases mem a ha with rfl | h
    · exact w'.nt _ (by simp) u hu
    · rw [(own a h).2.1]; exact w.nt a h u hu
  · rcases List.mem_cons.mp ha with rfl | h
    · cases e : fx.H0 a with
      | none => rfl
      | some u => exact absurd pH (w.dm a (by rw [e]; exact fun z => nomatch z))
    · exact w.xn a h
  · exact kp a o (w.kp a o e n) (by rintro rfl; exact n t.f0)
  · rcases w'.zf a o e with y | y | y
    · exact w.zf a o y
    · refine .inr (.inl ?_)
      cases e0 : fx.H0 a with
      | none => rfl
      | some u => exact absurd y (w.dm a (by rw [e0]; exact fun z => nomatch z))
    · exact .inr (.inr y)
  · exact w'.dm a (w.dm a n)
/-- what of the slots is data -/
def keepD : Sl → Sl
  | .so _ (.va d) => .so false (.va d)
  | _ => .no
theorem Slots.keepD {fx' : Fx} (z : Zle Z Z') : ∀ {ps : List (Option V)} {ρ : Rho} {σ : L2.St} {fp : List Addr} {qs : List (Option V)}, Slots K fx Z H ps ρ σ fp → qs.length = ps.length → Slots K fx' Z' H' qs (ρ.map FL.keepD) σ []
  | _, _, _, _, [], .nil, _ => .nil
  | _, _, _, _, _ :: _, .nil, h => by simp at h
  | _, _, _, _, [], .no _, h => by simp at h
  | _, _, _, _, [], .tab _ _, h => by simp at h
  | _, _, _, _, [], .so _ _ _ _, h => by simp at h
  | _, _, _, _, _ :: _, .no r, h => .no (Slots.keepD z r (by simpa using h))
  | _, _, _, _, _ :: _, .tab _ r, h => .no (Slots.keepD z r (by simpa using h))
  | _, _, _, _, _ :: _, .so (w := w) hw _ _ r, h => by
    have ih := Slots.keepD (fx' := fx') z r (by simpa using h)
    cases hw with
    | va hr => exact .so (f := []) (fp := []) (.va (hr.mono z)) (fun a ha => by simp at ha) (fun q => by cases q) ih
    | ls _ _ => exact .no ih
    | dk _ _ _ => exact .no ih
    | dt _ _ _ => exact .no ih
    | ob _ _ _ => exact .no ih
end
/-- such a def called; slot i tells of its table -/
def fWords (i : Nat) (d q : Str) (Fn : List D → Option (List Str)) (fs : F (List D)) : F W := fs.bind fun ds ρ => match ρ[i]? with
  | some (.tab d' q') => if d' = d ∧ q' = q then (Fn ds).map fun ws => .ok (.ls (ws.map .str)) ρ else none
  | _ => none
section
variable {g : Gm} {e : Expr} {pos p : Pos} {es : List Expr} {fs : F (List D)} {x : Str} {k n : Nat}
theorem Slots.tabAt {K : PySem.W.Frag} {fx : Fx} {Z H : Hp} {d q : Str} : ∀ {ps : List (Option V)} {ρ : Rho} {σ : L2.St} {fp : List Addr} {i : Nat}, Slots K fx Z H ps ρ σ fp → ρ[i]? = some (.tab d q) → Tb fx (He.cT K (d, none)).2 q
  | _, _, _, _, i, .nil, e => by simp at e
  | _, _, _, _, 0, .no _, e => by simp at e
  | _, _, _, _, 0, .so _ _ _ _, e => by simp at e
  | _, _, _, _, 0, .tab t _, e => by
    simp at e
    obtain ⟨e1, e2⟩ := e
    subst e1 e2
    exact t
  | _, _, _, _, i + 1, .no r, e => Slots.tabAt (i := i) r (by simpa using e)
  | _, _, _, _, i + 1, .tab _ r, e => Slots.tabAt (i := i) r (by simpa using e)
  | _, _, _, _, i + 1, .so _ _ _ r, e => Slots.tabAt (i := i) r (by simpa using e)
theorem sw_words {i : Nat} {d q : Str} {Fn : List D → Option (List Str)} (h : Cal g k x n (spPT g.K d q Fn)) (hk : k ≤ g.k) (hg : g.sc.names.lookup x = some .globalImplicit) (ha : SA g (e :: es) fs) (hdb : (x == ("__debug__" : Str)) = false := by decide)
    (he : ∀ env, starEach (e :: es) env = (false, eval e env) :: starEach es env := by intro _; rfl) (hpl : ∀ env, (backTo pos (starEach es env)).any (·.1) = false := by intro _; rfl) : SW g (.Call (.Name x p) (e :: es) [] pos) (fWords i d q Fn fs) := by
  obtain ⟨t, pt, s⟩ := ha
  refine ⟨tCall (spPT g.K d q Fn) [] g.E t, fun X is => is.call h hk hg (pt X is) hdb he hpl, fun fx Z H ρ σ ex w rr e x Q k => ?_⟩
  show t σ H fun vs H1 => spPT g.K d q Fn (vs ++ []) H1 Q g.E
  refine sa_run s w e x fun ds ρ1 vs Z1 H1 e1 m1 r1 x1 => ?_
  rw [List.append_nil]
  split at e1
  case h_2 => cases e1
  rename_i d' q' ht
  split at e1
  case isFalse => cases e1
  rename_i hd
  obtain ⟨rfl, rfl⟩ := hd
  cases hw : Fn ds with
  | none => rw [hw] at e1; cases e1
  | some ws =>
  rw [hw] at e1
  cases e1
  have tb : Tb fx (He.cT g.K (d', none)).2 q' := by
    obtain ⟨fp, h⟩ := m1.wd
    exact h.sl.tabAt ht
  have tabs : LamX.Tabs fx.T H1 := by obtain ⟨fp, h⟩ := m1.wd; exact h.tb
  refine ⟨Z1, ds, ws, fx.T, m1.zh, r1, hw, tb.mem, tb.uni, tabs, tb.z m1.wd, fun pp Z2 H2 ρ' σ' ps zl w' rw' => ?_⟩
  obtain ⟨w2, f2⟩ := m1.wd.table tb zl w'
  exact k _ ρ1 rfl _ Z2 H2 [pp] (m1.z.trans zl) w2 (fun a ha => (f2 a ha).trans (m1.fr a ha)) rw'
end
end FL
set_option Elab.async false
set_option linter.all false
set_option maxRecDepth 100000
set_option maxHeartbeats 2000000
/-! S39: the whole of such a def -/
namespace FL
open PySem PySem.Spec PyProof.Rows L2
/-- y.append(lambda: ..), one behind another -/
inductive Apps (y : Str) : List Stmt → List LamI → Prop
  | nil : Apps y [] []
  | cons {L : LamI} {sts : List Stmt} {Ls : List LamI} {p1 p2 p3 p4 p5 : Pos} : (p2.endLine == p4.line) = true → (∀ env, swapsWith (.Call (.Attribute (.Name y p1) "append" p2) [.Lambda L.params L.body L.scope p3] [] p4) none p5.line env = pure false) →
      Apps y sts Ls → Apps y (.Expr (.Call (.Attribute (.Name y p1) "append" p2) [.Lambda L.params L.body L.scope p3] [] p4) p5 :: sts) (L :: Ls)
/-- d is the lambda L, made where the cells are so -/
def FnD (q : Str) (cells : List (Str × Addr)) (L : LamI) (d : D) : Prop := ∃ f k, d = .fn f (L.obj q cells f k) k (LamX.CodeO k q)
inductive FnDs (q : Str) (cells : List (Str × Addr)) : List LamI → List D → Prop
  | nil : FnDs q cells [] []
  | cons {L : LamI} {Ls : List LamI} {d : D} {ds : List D} : FnD q cells L d → FnDs q cells Ls ds → FnDs q cells (L :: Ls) (d :: ds)
theorem FnDs.length {q : Str} {cells : List (Str × Addr)} : ∀ {Ls : List LamI} {ds : List D}, FnDs q cells Ls ds → ds.length = Ls.length
  | _, _, .nil => rfl
  | _, _, .cons _ r => by rw [List.length_cons, List.length_cons, FnDs.length r]
theorem FnDs.get {q : Str} {cells : List (Str × Addr)} : ∀ {Ls : List LamI} {ds : List D} {i : Nat} {d : D}, FnDs q cells Ls ds → ds[i]? = some d → ∃ L, Ls[i]? = some L ∧ FnD q cells L d
  | _, _, _, _, .nil, e => by simp at e
  | _, _, 0, _, .cons h _, e => by simp at e; subst e; exact ⟨_, rfl, h⟩
  | _, _, i + 1, d, .cons _ r, e => by
    obtain ⟨L, h1, h2⟩ := FnDs.get (i := i) r (by simpa using e)
    exact ⟨L, by simpa using h1, h2⟩
section
variable {K : PySem.W.Frag} {fx : Fx} {X : Cx} {y q : Str} {i : Nat} {P c : Addr}
theorem pss_apps (tb : LamX.TabB X.base X.mg c P) (hcode : X.env.code = .ref c) (hq : X.env.qual ++ "<lambda>" = q) (hN : X.N[i]? = some y) (hv : Vis X.env.scope y) (d2 : (y == ("__debug__" : Str)) = false) (d3 : (y == ("__classdict__" : Str)) = false)
    (t : Tb fx P q) {rest : List Stmt} {tr : TS} (pr : PSs X rest tr) : ∀ {sts : List Stmt} {Ls : List LamI}, Apps y sts Ls → (∀ L ∈ Ls, LamX.LamS X.env.scope L.scope ∧ defaultsOf L.params X.env = ([], [])) →
      ∃ ts, PSs X (sts ++ rest) ts ∧ ∀ Z H ρ σ ds D', Wd X.K fx Z H ρ σ [] → ρ[i]? = some (.so false (.ls ds)) → ds.length + Ls.length < sizeLine →
        (∀ ds' Z' H', FnDs q X.env.cells Ls ds' → Zle Z Z' → Wd X.K fx Z' H' (ρ.set i (.so false (.ls (ds ++ ds')))) σ [] → tr D' σ H') → ts D' σ H
  | _, _, .nil, _ => ⟨tr, pr, fun Z H ρ σ ds D' w e _ k => k [] Z H .nil (.refl _) (by rw [List.append_nil, set_self ρ i _ e]; exact w)⟩
  | _, _, .cons (L := L) (sts := sts) (Ls := Ls) (p1 := p1) (p2 := p2) (p3 := p3) (p4 := p4) (p5 := p5) hl hs r, h => by
    obtain ⟨u, pu, su⟩ := pss_apps tb hcode hq hN hv d2 d3 t pr r fun L hL => h L (List.mem_cons_of_mem _ hL)
    obtain ⟨h1, h2⟩ := h L List.mem_cons_self
    have one : PE X (.Lambda L.params L.body L.scope p3) (tLamV fx.T P q (L.obj q X.env.cells)) := by
      have := pe_lamV (T := fx.T) (body := L.body) (pos := p3) tb hcode (by rw [hq]; exact t.mem) (by rw [hq]; exact t.uni) h1 h2
      rw [hq] at this
      exact this
    have app := pe_bm (X := X) (o := .Name y p1) (name := "append") (apos := p2) (e := .Lambda L.params L.body L.scope p3) (es := []) (cpos := p4) PySem.F.plainAttrs_list PySem.F.slot_list_append PySem.F.type_list_append mt_append (pe_var hN hv d2 d3) (pa_cons one pa_nil rfl) (by rfl) (by rfl) hl (by rfl) (by rfl)
    refine ⟨_, pss_cons (ps_expr app (hs _)) pu, fun Z H ρ σ ds D' w e hlen k => ?_⟩
    have hi : i < ρ.length := by
      cases Nat.lt_or_ge i ρ.length with
      | inl h => exact h
      | inr h => rw [List.getElem?_eq_none h] at e; cases e
    show tDrop (tBM X.K "list" rAppend (tVar i) (tCons (tLamV fx.T P q (L.obj q X.env.cells)) tNil)) { D' with nx := u D' } σ H
    refine sem_lamA t w e (by simp at hlen; omega) fun f kk Z1 H1 z1 w1 => ?_
    refine su Z1 H1 _ σ _ D' w1 (by rw [List.getElem?_set_self hi]) (by simp at hlen ⊢; omega) fun ds' Z2 H2 r2 z2 w2 => ?_
    refine k (_ :: ds') Z2 H2 (.cons ⟨f, kk, rfl⟩ r2) (z1.trans z2) ?_
    rw [List.set_set, List.append_assoc] at w2
    exact w2
end
theorem wipe_set {σ : L2.St} {ie : Nat} {v : V} (h : ie < σ.length) : ((L2.wipe σ [ie]).set ie (some v))[ie]? = some (some v) := by
  rw [List.getElem?_set_self (by rw [wipe_length]; exact h)]
section
variable {P : Program} {w : World} {K : PySem.W.Frag} {mg : Str → Option Value} {base : Heap}
/-- the outcomes that the asking def takes, as words -/
def Says (NW : List Str) (ts : List Str) (mm : Nat) (f0 f2 : FS) (r : R D) (s : Str) : Prop := ∀ d, ∃ ρ1 ρ2 ρ', f0 fuel (initP NW.length [d]) = some (.nx ρ1) ∧ ρ1.length = NW.length ∧ ρ1[0]? = some (.so false (.va d)) ∧ outTry ts mm r ρ1 = some (.nx ρ2) ∧ f2 fuel ρ2 = some (.rt (.va (.str s)) ρ')
theorem fn_words {x y a xw : Str} {f : Addr} {fd : FuncData} {args : Arguments} {body sts : List Stmt} {scM scope : Scope} {NM ps NW ts : List Str} {k iy ie mm : Nat} {L0 : LamI} {Ls : List LamI} {f0 f2 : FS} {Fn : List D → Option (List Str)} {p1 p2 p3 p4 p5 p6 p7 p8 p9 p10 p11 : Pos}
    (F : FunD K x x args body scM [] [] f fd) (ef : f = He.fAd K (x, none)) (S : FnScope NM ps scM) (tb : LamX.TabB base mg (He.cT K (x, none)).1 (He.cT K (x, none)).2)
    (eb : body = .Assign [.Name y p1] (.List [.Lambda L0.params L0.body L0.scope p2] p3) p4 :: (sts ++ [.Return (some (.ListComp (.Call (.Name xw p5) [.Name a p6] [] p7) [⟨.Name a p8, .Name y p9, [], 0⟩] scope p10)) p11]))
    (apps : Apps y sts Ls) (hy : NM[iy]? = some y) (ly : scM.names.lookup y = some .local) (ha : NM[ie]? = some a) (hps : ps.length ≤ iy) (hie : iy ≠ ie) (la : (relS scope scM).names.lookup a = some .local)
    (ok : BlkOk NM scM scope [(a, ie)])
    (hl : ∀ L ∈ L0 :: Ls, LamX.LamS scM L.scope ∧ ∀ env, defaultsOf L.params env = ([], []))
    (hw : ∀ E, ∃ te : List (Str × Addr) → L2.St → TE,
      (∀ X, Is (gmOf P w K mg base NM scM k E) X → X.env.qual ++ "<lambda>" = x ++ ".<locals>." ++ "<lambda>" → ∀ pins σm s H C cl fp, Behind X pins σm (X.blk s H scope (compEnvC scope cl C X.env) fp) → PE (X.blk s H scope (compEnvC scope cl C X.env) fp) (.Call (.Name xw p5) [.Name a p6] [] p7) (te X.env.cells σm)) ∧
      (∀ cells (σm : L2.St) Z H f k v L ρm psm (τ : L2.St) r ρ1 ρ2 ρ' s, L ∈ L0 :: Ls → τ[ie]? = some (some (.ref f)) → Rep K Z (.ref f) (.fn f (L.obj (x ++ ".<locals>." ++ "<lambda>") cells f k) k v) → v = LamX.CodeO k (x ++ ".<locals>." ++ "<lambda>") → Zle Z H →
        (∀ Z' H', Zle Z Z' → Slots K ⟨Z', H', [], psm, []⟩ Z' H' psm ρm σm []) → L.fl ρm = some r → f0 fuel (initP NW.length [.fn f (L.obj (x ++ ".<locals>." ++ "<lambda>") cells f k) k v]) = some (.nx ρ1) → ρ1.length = NW.length → ρ1[0]? = some (.so false (.va (.fn f (L.obj (x ++ ".<locals>." ++ "<lambda>") cells f k) k v))) → outTry ts mm r ρ1 = some (.nx ρ2) → f2 fuel ρ2 = some (.rt (.va (.str s)) ρ') →
        ∀ Q : VK, (∀ u Z2 H2, Gr Z H Z2 H2 → Rep K Z2 u (.str s) → Q u H2) → te cells σm τ H Q))
    (hF : ∀ ds ws, Fn ds = some ws → ds.length = ps.length ∧ ws.length = (L0 :: Ls).length ∧ ∀ (j : Nat) L, (L0 :: Ls)[j]? = some L → ∃ r s, L.fl (initP NM.length ds) = some r ∧ ws[j]? = some s ∧ Says NW ts mm f0 f2 r s)
    (hsz : (L0 :: Ls).length < sizeLine) (d1 : (y == ("__debug__" : Str)) = false := by decide) (d2 : (y == ("__classdict__" : Str)) = false := by decide)
    (w1 : ∀ env, swapsWithSole [.Name y p1] (.List [.Lambda L0.params L0.body L0.scope p2] p3) p4.line env = pure false := by intro _; rfl) (w2 : ∀ env, swappedStores [.Name y p1] (.List [.Lambda L0.params L0.body L0.scope p2] p3) env = pure none := by intro _; rfl) :
    FnOk P w K mg base (L2.CX P w) (k + 1) f fd ps (spPT K x (x ++ ".<locals>." ++ "<lambda>") Fn) := by
  obtain ⟨oc, od, dV, kV, doc, pm, an, cdv, ct, osl, rfl, lk, hcd, _, _⟩ := F.ex
  have ecd : cdv = .ref (He.cT K (x, none)).1 := by
    cases cdv with
    | ref c =>
      have := He.codeOf_eq (K := K) (p := (x, none)) (by rw [← ef]; exact lk) (c := c) rfl
      show _ = Value.ref (He.codeOf K (x, none))
      rw [this]
    | _ => exact absurd hcd (by simp [PySem.W.codeIn])
  refine fn_of lk hcd S (fun vs H Q E ⟨Z, ds, ws, T, _, hr, hf, _⟩ => by rw [hr.length, (hF _ _ hf).1]) (fun A outer s H vs Q E hr ⟨Z, ds, ws, T, z, rs, hf, mem, uni, tabs, zP, hk⟩ => ?_)
  obtain ⟨len, lws, each⟩ := hF _ _ hf
  obtain ⟨te, pte, ste⟩ := hw E
  have is : Is (gmOf P w K mg base NM scM k E) (cxOf (L2.CX P w) P w K mg base NM x scM f cdv A outer s H E) := is_cx S hr
  generalize eX : cxOf (L2.CX P w) P w K mg base NM x scM f cdv A outer s H E = X at is ⊢
  have qX : X.env.qual = x ++ ".<locals>." := by subst eX; rfl
  have cX : X.env.code = .ref (He.cT K (x, none)).1 := by subst eX; exact ecd
  have bX : X.base = base := is.base
  have mX : X.mg = mg := is.mg
  have KX : X.K = K := is.K
  have NX : X.N = NM := is.N
  have sX : X.env.scope = scM := is.sc
  have lt : iy < NM.length := by
    cases Nat.lt_or_ge iy NM.length with
    | inl h => exact h
    | inr h => rw [List.getElem?_eq_none h] at hy; cases hy
  have lte : ie < NM.length := by
    cases Nat.lt_or_ge ie NM.length with
    | inl h => exact h
    | inr h => rw [List.getElem?_eq_none h] at ha; cases ha
  have hNps : ps.length ≤ NM.length := by omega
  -- the world at the entry
  obtain ⟨fx, efx⟩ : ∃ fx : Fx, fx = ⟨Z, H, [(He.cT K (x, none)).2], List.replicate NM.length none, T⟩ := ⟨_, rfl⟩
  have t : Tb fx (He.cT K (x, none)).2 (x ++ ".<locals>." ++ "<lambda>") := by
    subst efx
    refine ⟨mem, uni, by simp, zP, ?_⟩
    obtain ⟨qs, e, _⟩ := tabs _ mem
    have e : H (He.cT K (x, none)).2 = some (.tbl qs) := e
    show H _ ≠ none
    rw [e]; exact fun z => nomatch z
  have lvs : vs.length = ds.length := rs.length
  have w0 : Wd K fx Z H (initP NM.length ds) (L2.start NM vs) [] := by
    obtain ⟨fp, h⟩ := wd_initP (N := NM) (H := H) z rs (by omega)
    have s0 := h.sl.keepD (fx' := fx) (H' := H) (qs := fx.ps) (.refl Z) (by subst efx; rfl)
    have e0 : (initP NM.length ds).map keepD = initP NM.length ds := by
      simp [initP, keepD, List.map_map, Function.comp_def]
    rw [e0] at s0
    subst efx
    exact ⟨[], s0, .nil, (fun _ h => nomatch h), (fun _ h => nomatch h), (fun _ h => nomatch h), (fun _ h => nomatch h), z, fun _ _ e _ => e, fun _ _ e => .inl e, fun _ h => h, tabs⟩
  have l0 : (initP NM.length ds).length = NM.length := by simp [initP]; omega
  have hTB : LamX.TabB X.base X.mg (He.cT K (x, none)).1 (He.cT K (x, none)).2 := by rw [bX, mX]; exact tb
  have nd : X.N.Nodup := by rw [NX]; exact S.nd
  have vy : Vis X.env.scope y := .inl (by rw [sX]; exact ly)
  have hNy : X.N[iy]? = some y := by rw [NX]; exact hy
  obtain ⟨hL1, hL2⟩ := hl L0 List.mem_cons_self
  have one : PE X (.Lambda L0.params L0.body L0.scope p2) (tLamV fx.T (He.cT K (x, none)).2 (x ++ ".<locals>." ++ "<lambda>") (L0.obj (x ++ ".<locals>." ++ "<lambda>") X.env.cells)) := by
    have := pe_lamV (T := fx.T) (body := L0.body) (pos := p2) hTB cX (by rw [qX]; exact t.mem) (by rw [qX]; exact t.uni) (by rw [sX]; exact hL1) (hL2 _)
    rw [qX] at this
    exact this
  have st0 := ps_asg (pos := p4) (pe_lst (pos := p3) (pa_cons one pa_nil rfl)) (pg_name (pos := p1) (i := iy) nd hNy (.inl (by rw [sX]; exact ly)) (.inr (by rw [sX]; exact ly))) (w1 _) (w2 _)
  obtain ⟨wi, pwi, swi⟩ := si_any (g := gmOf P w K mg base NM scM k E) (tg := .Name a p8) (se_varF (pos := p9) iy hy (.inl ly) d1 d2)
  have lc := pe_each (X := X) (pos := p10) (own := [(a, ie)]) is.calm nd (pwi X is) (by rw [NX, sX]; exact ok)
    (fun s H C cl fp => pg_name (X := X.blk s H scope (compEnvC scope cl C X.env) fp) (pos := p8) (i := ie) nd (by show X.N[ie]? = _; rw [NX]; exact ha) (.inl (by show (relS scope X.env.scope).names.lookup a = _; rw [sX]; exact la)) (.inr (by show (relS scope X.env.scope).names.lookup a = _; rw [sX]; exact la)))
    (fun pins σ s H C cl fp b => pte X is (by rw [qX]) pins σ s H C cl fp b)
  obtain ⟨ts', pts, sts'⟩ := pss_apps (fx := fx) (q := x ++ ".<locals>." ++ "<lambda>") hTB cX (by rw [qX]) hNy vy d1 d2 t (pss_one (ps_ret (pos := p11) lc)) apps (fun L hL => by
    obtain ⟨h1, h2⟩ := hl L (List.mem_cons_of_mem _ hL)
    exact ⟨by rw [sX]; exact h1, h2 _⟩)
  rw [eb]
  refine ⟨_, pss_cons st0 pts, ?_⟩
  show tAsg (tLst (tCons (tLamV fx.T (He.cT K (x, none)).2 (x ++ ".<locals>." ++ "<lambda>") (L0.obj (x ++ ".<locals>." ++ "<lambda>") X.env.cells)) tNil)) (gName iy) { nx := ts' { nx := fun _ H' => Q .non H', rt := Q }, rt := Q } (L2.start NM vs) H
  refine sem_lam1 t w0 (by rw [l0]; exact lt) fun f1 k1 Z1 H1 σ1 z1 w1' => ?_
  refine sts' Z1 H1 _ σ1 [_] _ (by rw [KX]; exact w1') (by rw [List.getElem?_set_self (by rw [l0]; exact lt)]) (by simp at hsz ⊢; omega) fun ds' Z2 H2 r2 z2 w2' => ?_
  rw [KX, List.set_set] at w2'
  have r3 : FnDs (x ++ ".<locals>." ++ "<lambda>") X.env.cells (L0 :: Ls) ([D.fn f1 (L0.obj (x ++ ".<locals>." ++ "<lambda>") X.env.cells f1 k1) k1 (LamX.CodeO k1 (x ++ ".<locals>." ++ "<lambda>"))] ++ ds') := .cons ⟨_, _, rfl⟩ r2
  generalize eall : [D.fn f1 (L0.obj (x ++ ".<locals>." ++ "<lambda>") X.env.cells f1 k1) k1 (LamX.CodeO k1 (x ++ ".<locals>." ++ "<lambda>"))] ++ ds' = all at r3 w2'
  have lall := r3.length
  show tLc wi (gName ie) tYes (te X.env.cells σ1) [ie] σ1 H2 Q
  have lσ : σ1.length = NM.length := by rw [← w2'.lens, List.length_set, l0]
  refine sem_each (g := gmOf P w K mg base NM scM k E) (fs := all) (ws := ws) swi w2' (by rw [List.getElem?_set_self (by rw [l0]; exact lt)]) (by omega) (by rw [lws, lall]) (fun j d s hd hs Z3 H3 v z3 zh3 _ rv R hR => ?_) (fun p Z3 H3 z3 w3 r3' => ?_)
  · obtain ⟨L, hL, f2', k2, rfl⟩ := r3.get hd
    obtain ⟨r, s', hr', hs', says⟩ := each j L hL
    rw [hs] at hs'
    cases hs'
    have ev : v = .ref f2' := by cases rv; rfl
    subst ev
    obtain ⟨ρ1, ρ2, ρ', a1, a2, a3, a4, a5⟩ := says (.fn f2' (L.obj (x ++ ".<locals>." ++ "<lambda>") X.env.cells f2' k2) k2 (LamX.CodeO k2 (x ++ ".<locals>." ++ "<lambda>")))
    refine ste X.env.cells σ1 Z3 H3 f2' k2 _ L (initP NM.length ds) (List.replicate NM.length none) _ r ρ1 ρ2 ρ' s (List.mem_of_getElem? hL) (wipe_set (by rw [lσ]; exact lte)) rv rfl zh3 (fun Z' H' z' => ?_) hr' a1 a2 a3 a4 a5 R hR
    obtain ⟨fp, h⟩ := w2'
    have s0 := h.sl.keepD (fx' := ⟨Z', H', [], List.replicate NM.length none, []⟩) (H' := H') (qs := List.replicate NM.length none) (z3.trans z') (by subst efx; simp)
    have e0 : ((initP NM.length ds).set iy (.so false (.ls all))).map keepD = initP NM.length ds := by
      rw [List.map_set]
      have e1 : (initP NM.length ds).map keepD = initP NM.length ds := by simp [initP, keepD, List.map_map, Function.comp_def]
      rw [e1]
      refine set_self _ _ _ ?_
      unfold initP
      rw [List.getElem?_append_right (by simp; omega), List.getElem?_replicate]
      simp [keepD]; omega
    rw [e0] at s0
    exact s0
  · have zz := (z1.trans z2).trans z3
    subst efx
    exact hk p Z3 H3 _ σ1 _ zz w3 r3'
end
end FL
set_option Elab.async false
set_option linter.all false
set_option maxRecDepth 100000
set_option maxHeartbeats 1000000
/-! HY: the head's facts, with properties and whatever a Bool tells -/
namespace FL
open PySem PySem.Spec PyProof.Rows L2
def gK (g : Addr → Option Obj) (n : Nat) : PySem.W.Frag := He.frG g (He.asD g n)
/-- the getter of a property -/
def getA (K : PySem.W.Frag) (C m : Str) : Addr := match W.recIn K (He.ma K (He.ga K C) m) "property" with
  | some (.ref a :: _) => a
  | _ => 0
def fnA (K : PySem.W.Frag) (a : Addr) : He.FnW := match List.lookup a K with
  | some { cls := _, dict := _, data := .func fd, slots := _ } => some (fd.name, fd.qualname, fd.params, fd.body, fd.scope, fd.globals, fd.closure, fd.builtins)
  | _ => none
structure GetD where
  c : Str
  m : Str
  qual : Str
  params : Arguments
  body : List Stmt
  scope : Scope
def propB (K : PySem.W.Frag) (d : GetD) : Bool :=
  decide (W.findIn K (.ref (He.ga K d.c)) d.m = some (some (.ref (He.ma K (He.ga K d.c) d.m)))) &&
  (decide (W.specialIn K (.ref (He.ma K (He.ga K d.c) d.m)) "__get__" = some (some (.builtin "property.__get__"))) &&
  (decide (W.takesIn K (.ref (He.ma K (He.ga K d.c) d.m)) = some true) &&
  ((match W.recIn K (He.ma K (He.ga K d.c) d.m) "property" with | some (.ref _ :: _) => true | _ => false) &&
  (W.keepIn K (.ref (getA K d.c d.m)) &&
  (match List.lookup (getA K d.c d.m) K with
    | some { cls := _, dict := _, data := .func fd, slots := _ } => W.codeIn K fd.code d.qual && decide (fd.defaults = .none)
    | _ => false)))))
/-- a module's dict of text keys and whole numbers -/
def tabB (K : PySem.W.Frag) (x : Str) (tab : List (Str × Int)) : Bool := match List.lookup (He.ga K x) K with
  | some { cls := _, dict := _, data := .dict es _, slots := _ } => (es.toList.map fun e => match e.key, e.val with | .str s _, .int i _ => some (s, i) | _, _ => none) == tab.map some
  | _ => false
abbrev AlY := He.AlT × Bool × List He.FnW
def obsK (fa : List He.Fa) (fn : List He.DefD) (ts : List He.Tab) (gs : List GetD) (ex : PySem.W.Frag → Bool) (K : PySem.W.Frag) : AlY := (He.obsT fa fn ts K, ex K && gs.all (propB K), gs.map fun d => fnA K (getA K d.c d.m))
def valY (fn : List He.DefD) (ts : List He.Tab) (gs : List GetD) (w : World) : AlY := (He.valT fn ts w, true, gs.map fun d => some (d.m, d.qual, d.params, .stmts d.body, d.scope, mainGlobals, [], builtinsNs))
def SaysY (fa : List He.Fa) (fn : List He.DefD) (ts : List He.Tab) (gs : List GetD) (ex : PySem.W.Frag → Bool) (w : World) (K : PySem.W.Frag) : Prop := obsK fa fn ts gs ex K = valY fn ts gs w
def hookY (n : Nat) (fa : List He.Fa) (fn : List He.DefD) (ts : List He.Tab) (gs : List GetD) (ex : PySem.W.Frag → Bool) : PySem.W.Hook where
  α := AlY
  obs := fun s => obsK fa fn ts gs ex (gK s.heap.get? n)
  val := valY fn ts gs
  says := fun w h => ∃ K : PySem.W.Frag, K.In h ∧ SaysY fa fn ts gs ex w K
  of := fun w s h => ⟨_, He.frG_in, h⟩
  keeps := fun w h h' ⟨K, i, s⟩ k => ⟨K, fun a o q => k a o (i a o q), s⟩
section
variable {fa : List He.Fa} {fn : List He.DefD} {ts : List He.Tab} {gs : List GetD} {ex : PySem.W.Frag → Bool} {w : World} {K : PySem.W.Frag}
theorem SaysY.t (c : SaysY fa fn ts gs ex w K) : He.SaysT fa fn ts w K := congrArg (fun (x : AlY) => x.1) c
theorem SaysY.d (c : SaysY fa fn ts gs ex w K) : He.SaysD fa fn K := congrArg (fun (x : He.AlT) => x.1) c.t
theorem SaysY.b (c : SaysY fa fn ts gs ex w K) : ex K = true ∧ ∀ d ∈ gs, propB K d = true := by
  have h : (ex K && gs.all (propB K)) = true := congrArg (fun (x : AlY) => x.2.1) c
  rw [Bool.and_eq_true, List.all_eq_true] at h
  exact h
theorem SaysY.get (c : SaysY fa fn ts gs ex w K) (i : Nat) {d : GetD} (hd : gs[i]? = some d := by rfl) : ∃ fd, PropOf K (He.ga K d.c) d.m (He.ma K (He.ga K d.c) d.m) (getA K d.c d.m) ∧ FunD K d.m d.qual d.params d.body d.scope [] [] (getA K d.c d.m) fd := by
  have hm : d ∈ gs := List.mem_of_getElem? hd
  have hb := c.b.2 d hm
  have hf : fnA K (getA K d.c d.m) = some (d.m, d.qual, d.params, .stmts d.body, d.scope, mainGlobals, [], builtinsNs) := by
    have h : (gs.map fun d => fnA K (getA K d.c d.m)) = gs.map fun d => some (d.m, d.qual, d.params, .stmts d.body, d.scope, mainGlobals, [], builtinsNs) := congrArg (fun (x : AlY) => x.2.2) c
    exact List.map_inj_left.mp h d hm
  unfold propB at hb
  simp only [Bool.and_eq_true, decide_eq_true_eq] at hb
  obtain ⟨h1, h2, h3, h4, h5, h6⟩ := hb
  unfold fnA at hf
  split at hf
  case h_2 => cases hf
  rename_i oc od fd osl hl
  rw [hl] at h6
  have h6' : W.codeIn K fd.code d.qual = true ∧ fd.defaults = .none := by simpa using h6
  injection hf with hf
  simp only [Prod.mk.injEq] at hf
  obtain ⟨e1, e2, e3, e4, e5, e6, e7, e8⟩ := hf
  refine ⟨fd, ⟨h1, h2, h3, ?_⟩, ⟨⟨oc, od, .none, fd.kwdefaults, fd.doc, fd.pyModule, fd.annotations, fd.code, fd.closureTuple, osl, ?_, hl, h6'.1, .inl ⟨rfl, rfl⟩, .inl rfl⟩, h5⟩⟩
  · unfold getA
    split at h4
    · rename_i a rest q
      rw [q]
      exact ⟨rest, rfl⟩
    · cases h4
  · obtain ⟨n1, n2, n3, n4, n5, n6, n7, n8, n9, n10, n11, n12, n13, n14, n15⟩ := fd
    simp only at e1 e2 e3 e4 e5 e6 e7 e8 h6'
    subst e1 e2 e3 e4 e5 e6 e7 e8
    rw [h6'.2]
/-- a table: what is asked of it -/
structure Tab (K : PySem.W.Frag) (w : World) (x : Str) (tab : List (Str × Int)) : Prop where
  kd : ∃ es n, KDict K w (He.ga K x) es n
  at_ : ∀ z, ∃ r, W.nsIn K (He.ga K x) z = some r ∧ match tab.lookup z with
    | none => r = none
    | some i => ∃ t, r = some (.int i t)
theorem tab_of {x : Str} {tab : List (Str × Int)} (h : tabB K x tab = true) (kd : ∃ es n, KDict K w (He.ga K x) es n) : Tab K w x tab := by
  refine ⟨kd, fun z => ?_⟩
  unfold tabB at h
  split at h
  case h_2 => cases h
  rename_i oc od es ep osl hl
  have he := eq_of_beq h
  unfold W.nsIn
  rw [hl]
  simp only
  generalize es.toList = l at he
  have key : ∀ (l : List DictEntry) (tab : List (Str × Int)), (l.map fun e => match e.key, e.val with | .str s _, .int i _ => some (s, i) | _, _ => none) = tab.map some →
      (∀ e ∈ l, e.refKey = false) ∧ match tab.lookup z with
        | none => l.find? (fun e => e.key.isStr z) = none
        | some i => ∃ e t, l.find? (fun e => e.key.isStr z) = some e ∧ e.val = .int i t := by
    intro l
    induction l with
    | nil =>
      intro tab h
      cases tab with
      | nil => exact ⟨by simp, rfl⟩
      | cons _ _ => cases h
    | cons e l ih =>
      intro tab h
      cases tab with
      | nil => cases h
      | cons p tab =>
        rw [List.map_cons, List.map_cons] at h
        injection h with h1 h2
        obtain ⟨i1, i2⟩ := ih tab h2
        obtain ⟨hh, kk, vv⟩ := e
        simp only at h1
        split at h1
        case h_2 => cases h1
        rename_i s t i t'
        injection h1 with h1
        subst h1
        refine ⟨fun e he => ?_, ?_⟩
        · rcases List.mem_cons.mp he with rfl | he
          · rfl
          · exact i1 e he
        · rw [List.lookup_cons, List.find?_cons]
          show match (match z == s with | true => some i | false => List.lookup z tab) with | none => _ | some i => _
          have hs : (Value.str s t).isStr z = (s == z) := rfl
          rw [hs]
          by_cases q : z = s
          · subst q
            simp only [beq_self_eq_true]
            exact ⟨_, t', rfl, rfl⟩
          · have q1 : (z == s) = false := by simpa using q
            have q2 : (s == z) = false := by simpa using fun h : s = z => q h.symm
            rw [q1, q2]
            exact i2
  obtain ⟨k1, k2⟩ := key l tab he
  have k3 : (l.any fun x => x.refKey) = false := by
    rw [List.any_eq_false]
    intro e he
    rw [k1 e he]
    exact Bool.false_ne_true
  cases q : tab.lookup z with
  | none =>
    rw [q] at k2
    rw [k2]
    simp only [k3]
    exact ⟨none, rfl, rfl⟩
  | some i =>
    rw [q] at k2
    obtain ⟨e, t, q1, q2⟩ := k2
    rw [q1]
    exact ⟨_, rfl, t, by rw [q2]⟩
end
section
variable {g : Gm} {a b : Expr} {fa fb : F D} {pos : Pos} {x : Str} {tab : List (Str × Int)}
def oTIn (neg : Bool) (x : Str) (tab : List (Str × Int)) : D → D → Option D
  | .str z, .cls y => if y = x then some (.bl (if neg then !(tab.lookup z).isSome else (tab.lookup z).isSome)) else none
  | _, _ => none
def oTIx (x : Str) (tab : List (Str × Int)) : D → D → Option D
  | .cls y, .str z => if y = x then (tab.lookup z).map .int else none
  | _, _ => none
def rTIn (K : PySem.W.Frag) (d : Addr) (neg : Bool) : R2 := fun x y H Q => ∃ z r, x = V.str z ∧ y = V.ref d ∧ W.nsIn K d z = some r ∧ Q (V.bl (if neg then !r.isSome else r.isSome)) H
theorem Tab.some (T : Tab g.K g.w x tab) (z : Str) : ∃ r, W.nsIn g.K (He.ga g.K x) z = Option.some r ∧ r.isSome = (tab.lookup z).isSome := by
  obtain ⟨r, h1, h2⟩ := T.at_ z
  refine ⟨r, h1, ?_⟩
  split at h2
  · rename_i q; rw [q, h2]; rfl
  · rename_i q; obtain ⟨t, h2⟩ := h2; rw [q, h2]; rfl
theorem opd_tin (T : Tab g.K g.w x tab) (neg : Bool) : OpD g.K (rTIn g.K (He.ga g.K x) neg) (oTIn neg x tab) := by
  intro Z H u v du dv d z ru rv e Q k
  cases ru with
  | str s =>
    cases rv with
    | cls y =>
      simp only [oTIn] at e
      split at e
      case isFalse => cases e
      rename_i hy
      subst hy
      cases e
      obtain ⟨r, h1, h2⟩ := T.some s
      refine ⟨s, r, rfl, rfl, h1, ?_⟩
      rw [h2]
      exact k.now z (.bl _)
    | _ => simp [oTIn] at e
  | _ => simp [oTIn] at e
theorem co_tin (T : Tab g.K g.w x tab) : Co g .In (rTIn g.K (He.ga g.K x) false) (oTIn false x tab) := by
  refine ⟨fun X is => ?_, opd_tin T false⟩
  obtain ⟨es, n, kd⟩ := T.kd
  rw [← is.K, ← is.w] at kd
  rw [← is.K]
  exact op_in_kd kd
theorem co_tnotin (T : Tab g.K g.w x tab) : Co g .NotIn (rTIn g.K (He.ga g.K x) true) (oTIn true x tab) := by
  refine ⟨fun X is => ?_, opd_tin T true⟩
  obtain ⟨es, n, kd⟩ := T.kd
  rw [← is.K, ← is.w] at kd
  rw [← is.K]
  exact op_notIn_kd kd
theorem e_tix (T : Tab g.K g.w x tab) (ha : SE g a fa) (hb : SE g b fb) (hs : PlainIx b := by intro _ _; rfl) : SE g (.Subscript a b pos) (fOp (oTIx x tab) fa fb) := by
  refine se_ix (r := rIxD g.K g.w) (fun X is => by rw [← is.K, ← is.w]; exact ix_kdict) ?_ ha hb hs
  intro Z H u v du dv d z ru rv e Q k
  cases ru with
  | cls y =>
    cases rv with
    | str s =>
      simp only [oTIx] at e
      split at e
      case isFalse => cases e
      rename_i hy
      subst hy
      obtain ⟨i, h1, rfl⟩ := Option.map_eq_some_iff.mp e
      obtain ⟨r, h2, h3⟩ := T.at_ s
      rw [h1] at h3
      obtain ⟨t, rfl⟩ := h3
      obtain ⟨es, n, kd⟩ := T.kd
      exact ⟨_, s, .int i, rfl, rfl, ⟨es, n, _, kd.at_, kd.lit, h2, t, rfl⟩, k.now z (.int i)⟩
    | _ => simp [oTIx] at e
  | _ => simp [oTIx] at e
end
end FL
set_option Elab.async false
set_option linter.all false
set_option maxRecDepth 100000
set_option maxHeartbeats 1000000
/-! HZ: the hook of HY, and staticmethods -/
namespace FL
open PySem PySem.Spec PyProof.Rows L2
def staA (K : PySem.W.Frag) (C m : Str) : Addr := match W.recIn K (He.ma K (He.ga K C) m) "staticmethod" with
  | some (.ref a :: _) => a
  | _ => 0
def staB (K : PySem.W.Frag) (d : GetD) : Bool :=
  W.readsIn K (He.ga K d.c) (.type "type") &&
  (decide (W.specialIn K (.ref (He.ga K d.c)) "__getattribute__" = some (some (.builtin "type.__getattribute__"))) &&
  ((match W.findCls K (.ref (He.ga K d.c)) (.type "type") d.m with
    | some (.get (.builtin g) (.ref p) .none (.ref D)) => decide (g = "staticmethod.__get__") && (decide (p = He.ma K (He.ga K d.c) d.m) && decide (D = He.ga K d.c))
    | _ => false) &&
  ((match W.recIn K (He.ma K (He.ga K d.c) d.m) "staticmethod" with | some (.ref _ :: _) => true | _ => false) &&
  (W.keepIn K (.ref (staA K d.c d.m)) &&
  (match List.lookup (staA K d.c d.m) K with
    | some { cls := _, dict := _, data := .func fd, slots := _ } => W.codeIn K fd.code d.qual && decide (fd.defaults = .none)
    | _ => false)))))
abbrev AlZ := AlY × Bool × List He.FnW
def obsZ (fa : List He.Fa) (fn : List He.DefD) (ts : List He.Tab) (gs ss : List GetD) (ex : PySem.W.Frag → Bool) (K : PySem.W.Frag) : AlZ := (obsK fa fn ts gs ex K, ss.all (staB K), ss.map fun d => fnA K (staA K d.c d.m))
def valZ (fn : List He.DefD) (ts : List He.Tab) (gs ss : List GetD) (w : World) : AlZ := (valY fn ts gs w, true, ss.map fun d => some (d.m, d.qual, d.params, .stmts d.body, d.scope, mainGlobals, [], builtinsNs))
def SaysZ (fa : List He.Fa) (fn : List He.DefD) (ts : List He.Tab) (gs ss : List GetD) (ex : PySem.W.Frag → Bool) (w : World) (K : PySem.W.Frag) : Prop := obsZ fa fn ts gs ss ex K = valZ fn ts gs ss w
def hookZ (n : Nat) (fa : List He.Fa) (fn : List He.DefD) (ts : List He.Tab) (gs ss : List GetD) (ex : PySem.W.Frag → Bool) : PySem.W.Hook where
  α := AlZ
  obs := fun s => obsZ fa fn ts gs ss ex (gK s.heap.get? n)
  val := valZ fn ts gs ss
  says := fun w h => ∃ K : PySem.W.Frag, K.In h ∧ SaysZ fa fn ts gs ss ex w K
  of := fun w s h => ⟨_, He.frG_in, h⟩
  keeps := fun w h h' ⟨K, i, s⟩ k => ⟨K, fun a o q => k a o (i a o q), s⟩
section
variable {fa : List He.Fa} {fn : List He.DefD} {ts : List He.Tab} {gs ss : List GetD} {ex : PySem.W.Frag → Bool} {w : World} {K : PySem.W.Frag}
theorem SaysZ.y (c : SaysZ fa fn ts gs ss ex w K) : SaysY fa fn ts gs ex w K := congrArg (fun (x : AlZ) => x.1) c
theorem SaysZ.sta (c : SaysZ fa fn ts gs ss ex w K) (i : Nat) {d : GetD} (hd : ss[i]? = some d := by rfl) : ∃ fd, CSm K (He.ga K d.c) (.type "type") d.m (He.ma K (He.ga K d.c) d.m) (staA K d.c d.m) ∧ FunD K d.m d.qual d.params d.body d.scope [] [] (staA K d.c d.m) fd := by
  have hm : d ∈ ss := List.mem_of_getElem? hd
  have hb : staB K d = true := by
    have h : ss.all (staB K) = true := congrArg (fun (x : AlZ) => x.2.1) c
    exact List.all_eq_true.mp h d hm
  have hf : fnA K (staA K d.c d.m) = some (d.m, d.qual, d.params, .stmts d.body, d.scope, mainGlobals, [], builtinsNs) := by
    have h : (ss.map fun d => fnA K (staA K d.c d.m)) = ss.map fun d => some (d.m, d.qual, d.params, .stmts d.body, d.scope, mainGlobals, [], builtinsNs) := congrArg (fun (x : AlZ) => x.2.2) c
    exact List.map_inj_left.mp h d hm
  unfold staB at hb
  rw [Bool.and_eq_true, Bool.and_eq_true, Bool.and_eq_true, Bool.and_eq_true, Bool.and_eq_true] at hb
  obtain ⟨h1, h2, h3, h4, h5, h6⟩ := hb
  unfold fnA at hf
  split at hf
  case h_2 => cases hf
  rename_i oc od fd osl hl
  rw [hl] at h6
  have h6' : W.codeIn K fd.code d.qual = true ∧ fd.defaults = .none := by simpa using h6
  injection hf with hf
  simp only [Prod.mk.injEq] at hf
  obtain ⟨e1, e2, e3, e4, e5, e6, e7, e8⟩ := hf
  refine ⟨fd, ⟨h1, of_decide_eq_true h2, ?_, ?_⟩, ⟨⟨oc, od, .none, fd.kwdefaults, fd.doc, fd.pyModule, fd.annotations, fd.code, fd.closureTuple, osl, ?_, hl, h6'.1, .inl ⟨rfl, rfl⟩, .inl rfl⟩, h5⟩⟩
  · split at h3
    · rename_i g p D e
      rw [Bool.and_eq_true, Bool.and_eq_true] at h3
      obtain ⟨k1, k2, k3⟩ := h3
      rw [e, of_decide_eq_true k1, of_decide_eq_true k2, of_decide_eq_true k3]
    · cases h3
  · unfold staA
    split at h4
    · rename_i a rest q
      rw [q]
      exact ⟨rest, rfl⟩
    · cases h4
  · obtain ⟨n1, n2, n3, n4, n5, n6, n7, n8, n9, n10, n11, n12, n13, n14, n15⟩ := fd
    simp only at e1 e2 e3 e4 e5 e6 e7 e8 h6'
    subst e1 e2 e3 e4 e5 e6 e7 e8
    rw [h6'.2]
end
/-- what the own classes are asked, as Bools -/
def cisB (K : PySem.W.Frag) (C : Addr) : Bool := decide (W.findIn K (.ref C) "__class__" = some (some (.builtin "object.__class__"))) && (decide (W.specialIn K (.builtin "object.__class__") "__get__" = some (some (.builtin "getset_descriptor.__get__"))) &&
  (decide (W.takesIn K (.builtin "object.__class__") = some true) && decide (W.mroIn K C (.type "object") = some true)))
theorem cis_of {K : PySem.W.Frag} {C : Addr} (h : cisB K C = true) (c : Cls K C) : CIs K C := by
  unfold cisB at h
  rw [Bool.and_eq_true, Bool.and_eq_true, Bool.and_eq_true] at h
  obtain ⟨h1, h2, h3, h4⟩ := h
  exact ⟨c, of_decide_eq_true h1, of_decide_eq_true h2, of_decide_eq_true h3, of_decide_eq_true h4⟩
/-- the own __eq__ of a class -/
def eqlB (K : PySem.W.Frag) (c : Str) : Bool := decide (W.findIn K (.ref (He.ga K c)) "__eq__" = some (some (.ref (He.ma K (He.ga K c) "__eq__")))) && W.isFn K (.ref (He.ma K (He.ga K c) "__eq__"))
theorem eql_of {K : PySem.W.Frag} {c : Str} (h : eqlB K c = true) : W.findIn K (.ref (He.ga K c)) "__eq__" = some (some (.ref (He.ma K (He.ga K c) "__eq__"))) ∧ W.isFn K (.ref (He.ma K (He.ga K c) "__eq__")) = true := by
  unfold eqlB at h
  rw [Bool.and_eq_true] at h
  exact ⟨of_decide_eq_true h.1, h.2⟩
end FL
set_option Elab.async false
set_option linter.all false
set_option maxRecDepth 100000
set_option maxHeartbeats 1000000
/-! GB: the law's program, its top statements -/
namespace FL
open PySem PySem.Spec PyProof.Rows L2
def top (i : Nat) : Stmt := PySem.Challenge.pw_layoutswap_k65_fewest_refused.main.body.getD i (.Pass ⟨0, 0, 0, 0⟩)
def inner (st : Stmt) (j : Nat) : Stmt := match st with
  | .ClassDef (body := b) .. => b.getD j (.Pass ⟨0, 0, 0, 0⟩)
  | _ => .Pass ⟨0, 0, 0, 0⟩
/-- the qualified name of the lambdas -/
abbrev qLam : Str := "_law_words" ++ ".<locals>." ++ "<lambda>"
def sc0 : Scope := { kind := .function, names := [], isGenerator := false, isCoroutine := false, more := [] }
def tab_LENGTHS : List (Str × Int) := [("open", 3), ("close", 3), ("move", 4), ("turn", 4)]
/-- what is known of the other defs, whatever body is walked -/
def CalK (P : Program) (w : World) (K : PySem.W.Frag) (mg : Str → Option Value) (base : Heap) (k : Nat) (x : Str) (n : Nat) (sp : Sp) : Prop := ∃ f fd ps, FnOk P w K mg base (L2.CX P w) k f fd ps sp ∧ mg x = some (.ref f) ∧ PySem.W.keepIn K (.ref f) = true ∧ L2.Binds K fd ps [] ∧ ps.length = n
def CalMK (P : Program) (w : World) (K : PySem.W.Frag) (mg : Str → Option Value) (base : Heap) (k : Nat) (x cn : Str) (n : Nat) (sp : Sp) : Prop := ∃ f fd ps, FnOk P w K mg base (L2.CX P w) k f fd ps sp ∧ Mk K (He.ga K cn) f ∧ mg x = some (.ref (He.ga K cn)) ∧ L2.Binds K fd ps [] ∧ ps.length = n
def CalGK (P : Program) (w : World) (K : PySem.W.Frag) (mg : Str → Option Value) (base : Heap) (k : Nat) (cn pn : Str) (sp : Sp) : Prop := ∃ p f fd ps, PropOf K (He.ga K cn) pn p f ∧ Cls K (He.ga K cn) ∧ FnOk P w K mg base (L2.CX P w) k f fd ps sp ∧ L2.Binds K fd ps [] ∧ ps.length = 1
def ExcFK (K : PySem.W.Frag) (mg : Str → Option Value) (x cn : Str) : Prop := W.excIn K (He.ga K cn) [.type "ValueError", .type "Exception", .type "BaseException", .type "object"] "ValueError.__new__" = true ∧ mg x = some (.ref (He.ga K cn)) ∧ W.keepIn K (.ref (He.ga K cn)) = true ∧
  W.subIn K (.ref (He.ga K cn)) (.type "BaseException") = some true ∧ W.typeIn K (.ref (He.ga K cn)) = some (.type "type")
def CalSK (P : Program) (w : World) (K : PySem.W.Frag) (mg : Str → Option Value) (base : Heap) (k : Nat) (cn m : Str) (n : Nat) (sp : Sp) : Prop := ∃ p f fd ps, CSm K (He.ga K cn) (.type "type") m p f ∧ FnOk P w K mg base (L2.CX P w) k f fd ps sp ∧ mg cn = some (.ref (He.ga K cn)) ∧ PySem.W.keepIn K (.ref f) = true ∧ L2.Binds K fd ps [] ∧ ps.length = n
def CalEK (P : Program) (w : World) (K : PySem.W.Frag) (mg : Str → Option Value) (base : Heap) (k : Nat) (cn : Str) (sp : Sp) : Prop := ∃ f fd ps, FnOk P w K mg base (L2.CX P w) k f fd ps sp ∧ PySem.W.findIn K (.ref (He.ga K cn)) "__eq__" = some (some (.ref f)) ∧ PySem.W.isFn K (.ref f) = true ∧ L2.Binds K fd ps [] ∧ ps.length = 2
section
variable {P : Program} {w : World} {K : PySem.W.Frag} {mg : Str → Option Value} {base : Heap} {k k' : Nat} {x cn : Str} {n : Nat} {sp : Sp} {N : List Str} {sc : Scope} {E : XK} {t : Bool} {fnn : Str → Bool}
theorem CalK.c (h : CalK P w K mg base k x n sp) : Cal ⟨P, w, K, mg, base, N, sc, k', E, t, fnn⟩ k x n sp := h
theorem CalMK.c (h : CalMK P w K mg base k x cn n sp) : CalM ⟨P, w, K, mg, base, N, sc, k', E, t, fnn⟩ k x cn n sp := h
theorem CalGK.c (h : CalGK P w K mg base k x cn sp) : CalG ⟨P, w, K, mg, base, N, sc, k', E, t, fnn⟩ k x cn sp := h
theorem CalSK.c {m : Str} (h : CalSK P w K mg base k cn m n sp) : CalS ⟨P, w, K, mg, base, N, sc, k', E, t, fnn⟩ k cn m n sp := h
theorem CalEK.c (h : CalEK P w K mg base k cn sp) : CalE ⟨P, w, K, mg, base, N, sc, k', E, t, fnn⟩ k cn sp := h
theorem ExcFK.c (h : ExcFK K mg x cn) : ExcF ⟨P, w, K, mg, base, N, sc, k', E, t, fnn⟩ x cn := h
end
def gm0 (P : Program) (w : World) (K : PySem.W.Frag) (mg : Str → Option Value) (base : Heap) : Gm := gmOf P w K mg base [] sc0 0 fun _ _ _ => False
/-- the law's own run: slot i tells of the table -/
def runT (n m i : Nat) (f : FS) (ds : List D) : Option RP := if ds.length = n then (f fuel ((initP m ds).set i (.tab "_law_words" qLam))).bind outP else none
abbrev tabP (K : PySem.W.Frag) : Addr := (He.cT K ("_law_words", none)).2
def spL (K : PySem.W.Frag) (Fn : List D → Option RP) : Sp := fun vs H Q E => ∃ Z ds, Zle Z H ∧ Reps K Z vs ds ∧ LamX.Tabs [(tabP K, qLam)] H ∧ Z (tabP K) = none ∧ Fn ds = some (.ret (.va (.bl true))) ∧ ∀ H', Q (.bl true) H'
section
variable {P : Program} {w : World} {K : PySem.W.Frag} {mg : Str → Option Value} {base : Heap} {f : Addr} {fd : FuncData} {x qual : Str} {params : Arguments} {body : List Stmt} {scope : Scope} {dvs : List V} {kws : List (Str × V)} {N ps : List Str} {k i : Nat} {bf : FS}
theorem slots_tab {fx : Fx} {Z H : Hp} {d q : Str} : ∀ {ps : List (Option V)} {ρ : Rho} {σ : L2.St} {fp : List Addr} {i : Nat}, Slots K fx Z H ps ρ σ fp → ρ[i]? = some .no → Tb fx (He.cT K (d, none)).2 q → Slots K fx Z H ps (ρ.set i (.tab d q)) σ fp
  | _, _, _, _, i, .nil, e, _ => by simp at e
  | _, _, _, _, 0, .no r, _, t => .tab t r
  | _, _, _, _, 0, .so _ _ _ _, e, _ => by simp at e
  | _, _, _, _, 0, .tab _ _, e, _ => by simp at e
  | _, _, _, _, i + 1, .no r, e, t => .no (slots_tab (i := i) r (by simpa using e) t)
  | _, _, _, _, i + 1, .tab u r, e, t => .tab u (slots_tab (i := i) r (by simpa using e) t)
  | _, _, _, _, i + 1, .so h o p r, e, t => .so h o p (slots_tab (i := i) r (by simpa using e) t)
theorem fn_okT (F : FunD K x qual params body scope dvs kws f fd) (S : FnScope N ps scope) (hN : ps.length ≤ N.length) (hi : ps.length ≤ i) (hi2 : i < N.length) (hb : ∀ E, SSs (gmOf P w K mg base N scope k E) body bf) : FnOk P w K mg base (L2.CX P w) (k + 1) f fd ps (spL K (runT ps.length N.length i bf)) := by
  refine F.ok S (fun vs H Q E ⟨Z, ds, _, hr, _, _, hf, _⟩ => ?_) (fun cdv A outer s H vs Q E hr ⟨Z, ds, z, rs, tabs, zP, hf, hk⟩ => ?_)
  · unfold runT at hf
    split at hf
    · rename_i hl; rw [hr.length, hl]
    · cases hf
  · obtain ⟨t, pt, st⟩ := hb E
    refine ⟨t, pt _ (is_cx S hr), ?_⟩
    unfold runT at hf
    split at hf
    case isFalse => cases hf
    rename_i hl
    obtain ⟨o, ho, hr2⟩ := Option.bind_eq_some_iff.mp hf
    have lvs : vs.length = ds.length := rs.length
    have w0 : Wd K ⟨Z, H, [tabP K], List.replicate N.length none, [(tabP K, qLam)]⟩ Z H ((initP N.length ds).set i (.tab "_law_words" qLam)) (L2.start N vs) [] := by
      obtain ⟨fp, h⟩ := wd_initP (N := N) (H := H) z rs (by omega)
      have s0 := h.sl.keepD (fx' := ⟨Z, H, [tabP K], List.replicate N.length none, [(tabP K, qLam)]⟩) (H' := H) (qs := List.replicate N.length none) (.refl Z) (by simp)
      have e0 : (initP N.length ds).map keepD = initP N.length ds := by simp [initP, keepD, List.map_map, Function.comp_def]
      rw [e0] at s0
      have tb : Tb ⟨Z, H, [tabP K], List.replicate N.length none, [(tabP K, qLam)]⟩ (tabP K) qLam := by
        refine ⟨by simp, fun p hp _ => by simp at hp; rw [hp], by simp, zP, ?_⟩
        obtain ⟨qs, e, _⟩ := tabs (tabP K, qLam) (by simp)
        have e : H (tabP K) = some (.tbl qs) := e
        show H _ ≠ none
        rw [e]; exact fun z => nomatch z
      refine ⟨[], slots_tab s0 ?_ tb, .nil, (fun _ h => nomatch h), (fun _ h => nomatch h), (fun _ h => nomatch h), (fun _ h => nomatch h), z, fun _ _ e _ => e, fun _ _ e => .inl e, fun _ h => h, tabs⟩
      unfold initP
      rw [List.getElem?_append_right (by simp; omega), List.getElem?_replicate]
      simp; omega
    refine st _ Z H _ _ w0 fuel o ho _ ?_
    cases o with
    | nx ρ' => cases hr2
    | rt w ρ' =>
      cases hr2
      intro v Z' H' σ' fp z' w' rw'
      cases rw' with
      | va rv => cases rv; exact hk H'
    | ex e ρ' => cases hr2
    | bk ρ' => cases hr2
    | ct ρ' => cases hr2
end
end FL
set_option Elab.async false
set_option linter.all false
set_option maxRecDepth 100000
set_option maxHeartbeats 4000000
namespace FL
open PySem PySem.Spec PyProof.Rows L2
section
variable {P : Program} {w : World} {K : PySem.W.Frag} {mg : Str → Option Value} {base : Heap}
/-! is_integer -/
abbrev s_is_integer : Stmt := top 12
def N_is_integer : List Str := ["thing"]
def f_is_integer : FS := (fRet (fVa (fAnd (fCall oIsi (aCons (fVarF 0) (aCons (fC (.ty "int")) aNil))) (fNot (fCall oIsi (aCons (fVarF 0) (aCons (fC (.ty "bool")) aNil)))))))
def F_is_integer := runP 1 1 f_is_integer
theorem d_is_integer (fr_isinstance : mg "isinstance" = none) (fr_int : mg "int" = none) (fr_bool : mg "bool" = none) (E : XK) : SSs (gmOf P w K mg base N_is_integer (defScope s_is_integer) 0 E) (defBody s_is_integer) f_is_integer := (sss_one (ss_ret (sw_va (se_and (e_bi bi_isi fr_isinstance (sa_cons (se_varF 0 rfl (.inl rfl)) (sa_cons (e_ty fr_int) sa_nil))) (se_one (se_not (e_bi bi_isi fr_isinstance (sa_cons (se_varF 0 rfl (.inl rfl)) (sa_cons (e_ty fr_bool) sa_nil)))))))))
theorem sc_is_integer : FnScope N_is_integer ["thing"] (defScope s_is_integer) := ⟨rfl, rfl, rfl, by decide +kernel, rfl, by decide +kernel, by decide +kernel⟩

/-! is_name -/
abbrev s_is_name : Stmt := top 13
def N_is_name : List Str := ["thing", "sign"]
def f_is_name : FS := (fSeq (fIfS (gOr (gNot (fT (fCall oIsi (aCons (fVarF 0) (aCons (fC (.ty "str")) aNil))))) (gOr (gNot (fT (fChain oLe oLe (fC (.int 1)) (fCall oLen (aCons (fVarF 0) aNil)) (fC (.int 8))))) (fT (fOp (oInS true) (fOp oIx (fVarF 0) (fC (.int 0))) (fC (.str "abcdefghijklmnopqrstuvwxyz")))))) (fRet (fVa (fC (.bl false)))) fNx)
  (fRet (fVa (fCall oAll (aCons (fFrz (fLc (fItems (fVarF 0)) (tName 1) (F.ret true) (fOr (fOp (oInS false) (fVarF 1) (fC (.str "abcdefghijklmnopqrstuvwxyz"))) (fOp (oInS false) (fVarF 1) (fC (.str "0123456789")))) [1])) aNil)))))
def F_is_name := runP 1 2 f_is_name
theorem d_is_name (fr_isinstance : mg "isinstance" = none) (fr_str : mg "str" = none) (fr_len : mg "len" = none) (k_MAX_NAME : ∃ t, mg "MAX_NAME" = some (.int 8 t)) (k_LETTERS : ∃ t, mg "LETTERS" = some (.str "abcdefghijklmnopqrstuvwxyz" t)) (fr_all : mg "all" = none) (k_FIGURES : ∃ t, mg "FIGURES" = some (.str "0123456789" t)) (E : XK) : SSs (gmOf P w K mg base N_is_name (defScope s_is_name) 0 E) (defBody s_is_name) f_is_name := (sss_cons (ss_if (st_w (stw_or (st_not (st_val (e_bi bi_isi fr_isinstance (sa_cons (se_varF 0 rfl (.inl rfl)) (sa_cons (e_ty fr_str) sa_nil))))) (stw_or (st_not (t_ch co_le co_le se_int (e_bi bi_len fr_len (sa_cons (se_varF 0 rfl (.inl rfl)) sa_nil)) (e_gint k_MAX_NAME))) (stw_or1 (t_co co_notinS (e_ix (se_varF 0 rfl (.inl rfl)) se_int) (e_gstr k_LETTERS)))))) (sss_one (ss_ret (sw_va se_bl))) sss_nil)
  (sss_one (ss_ret (sw_va (e_bi bi_all fr_all (sa_cons (se_frz (sw_lc (own := [("sign", 1)]) (si_any (se_varF 0 rfl (.inl rfl))) (blkOk_by (by rfl)) (sg_name (i := 1) rfl (.inl rfl) (Is.hlL rfl)) (by decide) sts_nil (se_or (e_co co_inS (se_varF 1 rfl (.inl rfl)) (e_gstr k_LETTERS)) (se_one (e_co co_inS (se_varF 1 rfl (.inl rfl)) (e_gstr k_FIGURES)))))) sa_nil))))))
theorem sc_is_name : FnScope N_is_name ["thing"] (defScope s_is_name) := ⟨rfl, rfl, rfl, by decide +kernel, rfl, by decide +kernel, by decide +kernel⟩

/-! is_variant -/
abbrev s_is_variant : Stmt := top 17
def N_is_variant : List Str := ["thing"]
def f_is_variant : FS := (fSeq (fIfS (gOr (gNot (fT (fCall oIsi (aCons (fVarF 0) (aCons (fC (.ty "tuple")) aNil))))) (gOr (fT (fOp oNe (fCall oLen (aCons (fVarF 0) aNil)) (fC (.int 2)))) (gNot (fT (fFrz (fCallP F_is_name (aCons (fOp oIx (fVarF 0) (fC (.int 0))) aNil))))))) (fRet (fVa (fC (.bl false)))) fNx)
  (fRet (fVa (fAnd (fFrz (fCallP F_is_integer (aCons (fOp oIx (fVarF 0) (fC (.int 1))) aNil))) (fChain oLe oLe (fC (.int 0)) (fOp oIx (fVarF 0) (fC (.int 1))) (fC (.int 4)))))))
def F_is_variant := runP 1 1 f_is_variant
theorem d_is_variant (fr_isinstance : mg "isinstance" = none) (fr_tuple : mg "tuple" = none) (fr_len : mg "len" = none) (c_is_name : CalK P w K mg base 1 "is_name" 1 (spP K F_is_name)) (c_is_integer : CalK P w K mg base 1 "is_integer" 1 (spP K F_is_integer)) (k_MAX_PARTS : ∃ t, mg "MAX_PARTS" = some (.int 4 t)) (E : XK) : SSs (gmOf P w K mg base N_is_variant (defScope s_is_variant) 1 E) (defBody s_is_variant) f_is_variant := (sss_cons (ss_if (st_w (stw_or (st_not (st_val (e_bi bi_isi fr_isinstance (sa_cons (se_varF 0 rfl (.inl rfl)) (sa_cons (e_ty fr_tuple) sa_nil))))) (stw_or (t_co co_ne (e_bi bi_len fr_len (sa_cons (se_varF 0 rfl (.inl rfl)) sa_nil)) se_int) (stw_or1 (st_not (st_val (se_frz (sw_call c_is_name.c (Nat.le_of_ble_eq_true rfl) rfl (sa_cons (e_ix (se_varF 0 rfl (.inl rfl)) se_int) sa_nil))))))))) (sss_one (ss_ret (sw_va se_bl))) sss_nil)
  (sss_one (ss_ret (sw_va (se_and (se_frz (sw_call c_is_integer.c (Nat.le_of_ble_eq_true rfl) rfl (sa_cons (e_ix (se_varF 0 rfl (.inl rfl)) se_int) sa_nil))) (se_one (e_ch co_le co_le se_int (e_ix (se_varF 0 rfl (.inl rfl)) se_int) (e_gint k_MAX_PARTS))))))))
theorem sc_is_variant : FnScope N_is_variant ["thing"] (defScope s_is_variant) := ⟨rfl, rfl, rfl, by decide +kernel, rfl, by decide +kernel, by decide +kernel⟩

/-! is_kind -/
abbrev s_is_kind : Stmt := top 18
def N_is_kind : List Str := ["thing", "numbers", "tag", "parts", "one"]
def f_is_kind : FS := (fSeq (fIfS (gOr (gNot (fT (fCall oIsi (aCons (fVarF 0) (aCons (fC (.ty "tuple")) aNil))))) (gNot (fT (fChain oLe oLe (fC (.int 2)) (fCall oLen (aCons (fVarF 0) aNil)) (fC (.int 8)))))) (fRet (fVa (fC (.bl false)))) fNx)
  (fSeq (fIfS (gOr (gNot (fT (fCall oAll (aCons (fFrz (fLc (fItems (fVarF 0)) (tName 4) (F.ret true) (fFrz (fCallP F_is_variant (aCons (fVarF 4) aNil))) [4])) aNil)))) (fT (fOp oLt (fLenSet (fItems (fVarF 0)) (tTuple 2 (tsCons (tName 2) (tsCons (tName 3) tsNil))) (F.ret true) (fVarF 2) [2, 3]) (fCall oLen (aCons (fVarF 0) aNil))))) (fRet (fVa (fC (.bl false)))) fNx)
  (fSeq (fSet 1 (fLc (fItems (fVarF 0)) (tTuple 2 (tsCons (tName 2) (tsCons (tName 3) tsNil))) (F.ret true) (fVarF 3) [2, 3]))
  (fRet (fVa (fAnd (fOp oEq (fCall oMin (aCons (fVarF 1) aNil)) (fC (.int 0))) (fOp oGe (fCall oMax (aCons (fVarF 1) aNil)) (fC (.int 2)))))))))
def F_is_kind := runP 1 5 f_is_kind
theorem d_is_kind (fr_isinstance : mg "isinstance" = none) (fr_tuple : mg "tuple" = none) (fr_len : mg "len" = none) (k_MAX_VARIANTS : ∃ t, mg "MAX_VARIANTS" = some (.int 8 t)) (fr_all : mg "all" = none) (c_is_variant : CalK P w K mg base 2 "is_variant" 1 (spP K F_is_variant)) (fr_min : mg "min" = none) (fr_max : mg "max" = none) (E : XK) : SSs (gmOf P w K mg base N_is_kind (defScope s_is_kind) 2 E) (defBody s_is_kind) f_is_kind := (sss_cons (ss_if (st_w (stw_or (st_not (st_val (e_bi bi_isi fr_isinstance (sa_cons (se_varF 0 rfl (.inl rfl)) (sa_cons (e_ty fr_tuple) sa_nil))))) (stw_or1 (st_not (t_ch co_le co_le se_int (e_bi bi_len fr_len (sa_cons (se_varF 0 rfl (.inl rfl)) sa_nil)) (e_gint k_MAX_VARIANTS)))))) (sss_one (ss_ret (sw_va se_bl))) sss_nil)
  (sss_cons (ss_if (st_w (stw_or (st_not (st_val (e_bi bi_all fr_all (sa_cons (se_frz (sw_lc (own := [("one", 4)]) (si_any (se_varF 0 rfl (.inl rfl))) (blkOk_by (by rfl)) (sg_name (i := 4) rfl (.inl rfl) (Is.hlL rfl)) (by decide) sts_nil (se_frz (sw_call c_is_variant.c (Nat.le_of_ble_eq_true rfl) rfl (sa_cons (se_varF 4 rfl (.inl rfl)) sa_nil))))) sa_nil)))) (stw_or1 (t_co co_lt (se_lenSet fr_len (own := [("tag", 2), ("parts", 3)]) (si_any (se_varF 0 rfl (.inl rfl))) (blkOk_by (by rfl)) (sg_tup (sgs_cons (sg_name (i := 2) rfl (.inl rfl) (Is.hlL rfl)) (sgs_cons (sg_name (i := 3) rfl (.inl rfl) (Is.hlL rfl)) sgs_nil))) (by decide) sts_nil (se_varF 2 rfl (.inl rfl))) (e_bi bi_len fr_len (sa_cons (se_varF 0 rfl (.inl rfl)) sa_nil)))))) (sss_one (ss_ret (sw_va se_bl))) sss_nil)
  (sss_cons (ss_setLc (i := 1) rfl rfl (by rintro ⟨⟩ h; cases h; rfl) (own := [("tag", 2), ("parts", 3)]) (si_any (se_varF 0 rfl (.inl rfl))) (blkOk_by (by rfl)) (sg_tup (sgs_cons (sg_name (i := 2) rfl (.inl rfl) (Is.hlL rfl)) (sgs_cons (sg_name (i := 3) rfl (.inl rfl) (Is.hlL rfl)) sgs_nil))) (by decide) sts_nil (se_varF 3 rfl (.inl rfl)))
  (sss_one (ss_ret (sw_va (se_and (e_co co_eq (e_bi bi_min fr_min (sa_cons (se_varF 1 rfl (.inl rfl)) sa_nil)) se_int) (se_one (e_co co_ge (e_bi bi_max fr_max (sa_cons (se_varF 1 rfl (.inl rfl)) sa_nil)) se_int)))))))))
theorem sc_is_kind : FnScope N_is_kind ["thing"] (defScope s_is_kind) := ⟨rfl, rfl, rfl, by decide +kernel, rfl, by decide +kernel, by decide +kernel⟩

/-! need_kind -/
abbrev s_need_kind : Stmt := top 19
def N_need_kind : List Str := ["thing"]
def f_need_kind : FS := (fIfS (gNot (fT (fFrz (fCallP F_is_kind (aCons (fVarF 0) aNil))))) (fRaise "NoKind") fNx)
def F_need_kind := runP 1 1 f_need_kind
theorem d_need_kind (c_is_kind : CalK P w K mg base 3 "is_kind" 1 (spP K F_is_kind)) (e_NoKind : ExcFK K mg "NoKind" "NoKind") (E : XK) : SSs (gmOf P w K mg base N_need_kind (defScope s_need_kind) 3 E) (defBody s_need_kind) f_need_kind := (sss_one (ss_if (st_not (st_val (se_frz (sw_call c_is_kind.c (Nat.le_of_ble_eq_true rfl) rfl (sa_cons (se_varF 0 rfl (.inl rfl)) sa_nil))))) (sss_one (ss_raise e_NoKind.c rfl)) sss_nil))
theorem sc_need_kind : FnScope N_need_kind ["thing"] (defScope s_need_kind) := ⟨rfl, rfl, rfl, by decide +kernel, rfl, by decide +kernel, by decide +kernel⟩

/-! trimmed -/
abbrev s_trimmed : Stmt := top 22
def N_trimmed : List Str := ["factors", "some"]
def f_trimmed : FS := (fSeq (fSet 1 (fCallL oList (aCons (fVarF 0) aNil)))
  (fSeq (whileF (gAnd (gPeek (fT (fOp oNe (fVarF 1) (fFrz (fLst aNil))))) (fT (fOp oEq (fIxO 1 (fU oNeg (fC (.int 1)))) (fC (.int 0))))) (fDrop (fOwn 1 isLs oPop aNil)))
  (fRet (fVa (fCall oTuple (aCons (fVarF 1) aNil))))))
def F_trimmed := runP 1 2 f_trimmed
theorem d_trimmed (fr_list : mg "list" = none) (fr_tuple : mg "tuple" = none) (E : XK) : SSs (gmOf P w K mg base N_trimmed (defScope s_trimmed) 0 E) (defBody s_trimmed) f_trimmed := (sss_cons (ss_set (i := 1) rfl (.inl rfl) (w_list fr_list (sa_cons (se_varF 0 rfl (.inl rfl)) sa_nil)) (Is.hl rfl))
  (sss_cons (ss_while rfl (st_w (stw_and (st_peek (t_co co_ne (se_varF 1 rfl (.inl rfl)) (se_frz (sw_lst sa_nil)))) (stw_and1 (t_co co_eq (se_ixO (i := 1) rfl (.inl rfl) (e_neg se_int) (fun _ _ => rfl)) se_int)))) (sss_one (ss_expr (w_pop (i := 1) rfl (.inl rfl)))))
  (sss_one (ss_ret (sw_va (e_bt bt_tuple fr_tuple (sa_cons (se_varF 1 rfl (.inl rfl)) sa_nil)))))))
theorem sc_trimmed : FnScope N_trimmed ["factors"] (defScope s_trimmed) := ⟨rfl, rfl, rfl, by decide +kernel, rfl, by decide +kernel, by decide +kernel⟩

/-! factor_at -/
abbrev s_factor_at : Stmt := top 29
def N_factor_at : List Str := ["factors", "k"]
def f_factor_at : FS := (fRet (fIf (fT (fChain oLe oLt (fC (.int 0)) (fVarF 1) (fCall oLen (aCons (fVarF 0) aNil)))) (fVa (fOp oIx (fVarF 0) (fVarF 1))) (fVa (fC (.int 0)))))
def F_factor_at := runP 2 2 f_factor_at
theorem d_factor_at (fr_len : mg "len" = none) (E : XK) : SSs (gmOf P w K mg base N_factor_at (defScope s_factor_at) 0 E) (defBody s_factor_at) f_factor_at := (sss_one (ss_ret (sw_if (t_ch co_le co_lt se_int (se_varF 1 rfl (.inl rfl)) (e_bi bi_len fr_len (sa_cons (se_varF 0 rfl (.inl rfl)) sa_nil))) (sw_va (e_ix (se_varF 0 rfl (.inl rfl)) (se_varF 1 rfl (.inl rfl)))) (sw_va se_int))))
theorem sc_factor_at : FnScope N_factor_at ["factors", "k"] (defScope s_factor_at) := ⟨rfl, rfl, rfl, by decide +kernel, rfl, by decide +kernel, by decide +kernel⟩

/-! degrees_of -/
abbrev s_degrees_of : Stmt := top 32
def N_degrees_of : List Str := ["kind", "k", "tag", "parts"]
def f_degrees_of : FS := (fRet (fLc (fItems (fVarF 0)) (tTuple 2 (tsCons (tName 2) (tsCons (tName 3) tsNil))) (F.ret true) (fOp oAdd (fOp oSub (fVarF 1) (fC (.int 1))) (fVarF 3)) [2, 3]))
def F_degrees_of := runP 2 4 f_degrees_of
theorem d_degrees_of  (E : XK) : SSs (gmOf P w K mg base N_degrees_of (defScope s_degrees_of) 0 E) (defBody s_degrees_of) f_degrees_of := (sss_one (ss_ret (sw_lc (own := [("tag", 2), ("parts", 3)]) (si_any (se_varF 0 rfl (.inl rfl))) (blkOk_by (by rfl)) (sg_tup (sgs_cons (sg_name (i := 2) rfl (.inl rfl) (Is.hlL rfl)) (sgs_cons (sg_name (i := 3) rfl (.inl rfl) (Is.hlL rfl)) sgs_nil))) (by decide) sts_nil (e_bo bo_add (e_bo bo_sub (se_varF 1 rfl (.inr (.inl rfl))) se_int) (se_varF 3 rfl (.inl rfl))))))
theorem sc_degrees_of : FnScope N_degrees_of ["kind", "k"] (defScope s_degrees_of) := ⟨rfl, rfl, rfl, by decide +kernel, rfl, by decide +kernel, by decide +kernel⟩

/-! are_open_numbers -/
abbrev s_are_open_numbers : Stmt := top 34
def N_are_open_numbers : List Str := ["factors", "numbers", "k", "n"]
def f_are_open_numbers : FS := (fSeq (fAsg (fVarF 1) (tTuple 2 (tsCons (tName 2) (tsCons (tName 3) tsNil))))
  (fRet (fVa (fAnd (fOp oGe (fVarF 2) (fC (.int 1))) (fChain oLe oLe (fC (.int 1)) (fVarF 3) (fFrz (fCallP F_factor_at (aCons (fVarF 0) (aCons (fVarF 2) aNil)))))))))
def F_are_open_numbers := runP 2 4 f_are_open_numbers
theorem d_are_open_numbers (c_factor_at : CalK P w K mg base 1 "factor_at" 2 (spP K F_factor_at)) (E : XK) : SSs (gmOf P w K mg base N_are_open_numbers (defScope s_are_open_numbers) 1 E) (defBody s_are_open_numbers) f_are_open_numbers := (sss_cons (ss_asg (se_varF 1 rfl (.inl rfl)) (sg_tup (sgs_cons (sg_name (i := 2) rfl (.inl rfl) (Is.hl rfl)) (sgs_cons (sg_name (i := 3) rfl (.inl rfl) (Is.hl rfl)) sgs_nil))))
  (sss_one (ss_ret (sw_va (se_and (e_co co_ge (se_varF 2 rfl (.inl rfl)) se_int) (se_one (e_ch co_le co_le se_int (se_varF 3 rfl (.inl rfl)) (se_frz (sw_call c_factor_at.c (Nat.le_of_ble_eq_true rfl) rfl (sa_cons (se_varF 0 rfl (.inl rfl)) (sa_cons (se_varF 2 rfl (.inl rfl)) sa_nil)))))))))))
theorem sc_are_open_numbers : FnScope N_are_open_numbers ["factors", "numbers"] (defScope s_are_open_numbers) := ⟨rfl, rfl, rfl, by decide +kernel, rfl, by decide +kernel, by decide +kernel⟩

/-! are_close_numbers -/
abbrev s_are_close_numbers : Stmt := top 35
def N_are_close_numbers : List Str := ["kind", "factors", "numbers", "degrees", "k", "n", "degree"]
def f_are_close_numbers : FS := (fSeq (fAsg (fVarF 2) (tTuple 2 (tsCons (tName 4) (tsCons (tName 5) tsNil))))
  (fSeq (fIfS (gOr (fT (fOp oLt (fVarF 4) (fC (.int 1)))) (fT (fOp oLt (fVarF 5) (fC (.int 1))))) (fRet (fVa (fC (.bl false)))) fNx)
  (fSeq (fSet 3 (fCallP F_degrees_of (aCons (fVarF 0) (aCons (fVarF 4) aNil))))
  (fRet (fVa (fCall oAll (aCons (fFrz (fLc (fItems (fVarF 3)) (tName 6) (F.ret true) (fOp oLe (fOp oMul (fVarF 5) (fMth isL oCount (fVarF 3) (aCons (fVarF 6) aNil))) (fFrz (fCallP F_factor_at (aCons (fVarF 1) (aCons (fVarF 6) aNil))))) [6])) aNil)))))))
def F_are_close_numbers := runP 3 7 f_are_close_numbers
theorem d_are_close_numbers (c_degrees_of : CalK P w K mg base 1 "degrees_of" 2 (spP K F_degrees_of)) (fr_all : mg "all" = none) (c_factor_at : CalK P w K mg base 1 "factor_at" 2 (spP K F_factor_at)) (E : XK) : SSs (gmOf P w K mg base N_are_close_numbers (defScope s_are_close_numbers) 1 E) (defBody s_are_close_numbers) f_are_close_numbers := (sss_cons (ss_asg (se_varF 2 rfl (.inl rfl)) (sg_tup (sgs_cons (sg_name (i := 4) rfl (.inl rfl) (Is.hl rfl)) (sgs_cons (sg_name (i := 5) rfl (.inr rfl) (Is.hl rfl)) sgs_nil))))
  (sss_cons (ss_if (st_w (stw_or (t_co co_lt (se_varF 4 rfl (.inl rfl)) se_int) (stw_or1 (t_co co_lt (se_varF 5 rfl (.inr (.inl rfl))) se_int)))) (sss_one (ss_ret (sw_va se_bl))) sss_nil)
  (sss_cons (ss_set (i := 3) rfl (.inr rfl) (sw_call c_degrees_of.c (Nat.le_of_ble_eq_true rfl) rfl (sa_cons (se_varF 0 rfl (.inl rfl)) (sa_cons (se_varF 4 rfl (.inl rfl)) sa_nil))) (Is.hl rfl))
  (sss_one (ss_ret (sw_va (e_bi bi_all fr_all (sa_cons (se_frz (sw_lc (own := [("degree", 6)]) (si_any (se_varF 3 rfl (.inr (.inl rfl)))) (blkOk_by (by rfl)) (sg_name (i := 6) rfl (.inl rfl) (Is.hlL rfl)) (by decide) sts_nil (e_co co_le (e_bo bo_mul (se_varF 5 rfl (.inr (.inl rfl))) (e_count (se_varF 3 rfl (.inr (.inl rfl))) (sa_cons (se_varF 6 rfl (.inl rfl)) sa_nil))) (se_frz (sw_call c_factor_at.c (Nat.le_of_ble_eq_true rfl) rfl (sa_cons (se_varF 1 rfl (.inr (.inl rfl))) (sa_cons (se_varF 6 rfl (.inl rfl)) sa_nil))))))) sa_nil))))))))
theorem sc_are_close_numbers : FnScope N_are_close_numbers ["kind", "factors", "numbers"] (defScope s_are_close_numbers) := ⟨rfl, rfl, rfl, by decide +kernel, rfl, by decide +kernel, by decide +kernel⟩

/-! are_move_numbers -/
abbrev s_are_move_numbers : Stmt := top 36
def N_are_move_numbers : List Str := ["factors", "numbers", "k", "i", "n"]
def f_are_move_numbers : FS := (fSeq (fAsg (fVarF 1) (tTuple 3 (tsCons (tName 2) (tsCons (tName 3) (tsCons (tName 4) tsNil)))))
  (fRet (fVa (fAnd (fOp oGe (fVarF 2) (fC (.int 0))) (fAnd (fOp oGe (fVarF 3) (fC (.int 0))) (fAnd (fOp oGe (fVarF 4) (fC (.int 1))) (fOp oLe (fOp oAdd (fVarF 3) (fVarF 4)) (fFrz (fCallP F_factor_at (aCons (fVarF 0) (aCons (fVarF 2) aNil)))))))))))
def F_are_move_numbers := runP 2 5 f_are_move_numbers
theorem d_are_move_numbers (c_factor_at : CalK P w K mg base 1 "factor_at" 2 (spP K F_factor_at)) (E : XK) : SSs (gmOf P w K mg base N_are_move_numbers (defScope s_are_move_numbers) 1 E) (defBody s_are_move_numbers) f_are_move_numbers := (sss_cons (ss_asg (se_varF 1 rfl (.inl rfl)) (sg_tup (sgs_cons (sg_name (i := 2) rfl (.inl rfl) (Is.hl rfl)) (sgs_cons (sg_name (i := 3) rfl (.inl rfl) (Is.hl rfl)) (sgs_cons (sg_name (i := 4) rfl (.inl rfl) (Is.hl rfl)) sgs_nil)))))
  (sss_one (ss_ret (sw_va (se_and (e_co co_ge (se_varF 2 rfl (.inl rfl)) se_int) (se_and (e_co co_ge (se_varF 3 rfl (.inl rfl)) se_int) (se_and (e_co co_ge (se_varF 4 rfl (.inl rfl)) se_int) (se_one (e_co co_le (e_bo bo_add (se_varF 3 rfl (.inl rfl)) (se_varF 4 rfl (.inl rfl))) (se_frz (sw_call c_factor_at.c (Nat.le_of_ble_eq_true rfl) rfl (sa_cons (se_varF 0 rfl (.inl rfl)) (sa_cons (se_varF 2 rfl (.inl rfl)) sa_nil)))))))))))))
theorem sc_are_move_numbers : FnScope N_are_move_numbers ["factors", "numbers"] (defScope s_are_move_numbers) := ⟨rfl, rfl, rfl, by decide +kernel, rfl, by decide +kernel, by decide +kernel⟩

/-! are_turn_numbers -/
abbrev s_are_turn_numbers : Stmt := top 37
def N_are_turn_numbers : List Str := ["factors", "numbers", "k", "n", "j"]
def f_are_turn_numbers : FS := (fSeq (fAsg (fVarF 1) (tTuple 3 (tsCons (tName 2) (tsCons (tName 3) (tsCons (tName 4) tsNil)))))
  (fRet (fVa (fAnd (fChain oLe oLe (fC (.int 1)) (fVarF 3) (fFrz (fCallP F_factor_at (aCons (fVarF 0) (aCons (fVarF 2) aNil))))) (fChain oLe oLe (fC (.int 2)) (fVarF 4) (fVarF 2))))))
def F_are_turn_numbers := runP 2 5 f_are_turn_numbers
theorem d_are_turn_numbers (c_factor_at : CalK P w K mg base 1 "factor_at" 2 (spP K F_factor_at)) (E : XK) : SSs (gmOf P w K mg base N_are_turn_numbers (defScope s_are_turn_numbers) 1 E) (defBody s_are_turn_numbers) f_are_turn_numbers := (sss_cons (ss_asg (se_varF 1 rfl (.inl rfl)) (sg_tup (sgs_cons (sg_name (i := 2) rfl (.inl rfl) (Is.hl rfl)) (sgs_cons (sg_name (i := 3) rfl (.inl rfl) (Is.hl rfl)) (sgs_cons (sg_name (i := 4) rfl (.inl rfl) (Is.hl rfl)) sgs_nil)))))
  (sss_one (ss_ret (sw_va (se_and (e_ch co_le co_le se_int (se_varF 3 rfl (.inl rfl)) (se_frz (sw_call c_factor_at.c (Nat.le_of_ble_eq_true rfl) rfl (sa_cons (se_varF 0 rfl (.inl rfl)) (sa_cons (se_varF 2 rfl (.inl rfl)) sa_nil))))) (se_one (e_ch co_le co_le se_int (se_varF 4 rfl (.inl rfl)) (se_varF 2 rfl (.inl rfl)))))))))
theorem sc_are_turn_numbers : FnScope N_are_turn_numbers ["factors", "numbers"] (defScope s_are_turn_numbers) := ⟨rfl, rfl, rfl, by decide +kernel, rfl, by decide +kernel, by decide +kernel⟩

/-! are_numbers -/
abbrev s_are_numbers : Stmt := top 38
def N_are_numbers : List Str := ["kind", "factors", "word", "numbers"]
def f_are_numbers : FS := (fSeq (fIfS (fT (fOp oEq (fVarF 2) (fC (.str "open")))) (fRet (fCallP F_are_open_numbers (aCons (fVarF 1) (aCons (fVarF 3) aNil)))) fNx)
  (fSeq (fIfS (fT (fOp oEq (fVarF 2) (fC (.str "close")))) (fRet (fCallP F_are_close_numbers (aCons (fVarF 0) (aCons (fVarF 1) (aCons (fVarF 3) aNil))))) fNx)
  (fSeq (fIfS (fT (fOp oEq (fVarF 2) (fC (.str "move")))) (fRet (fCallP F_are_move_numbers (aCons (fVarF 1) (aCons (fVarF 3) aNil)))) fNx)
  (fRet (fCallP F_are_turn_numbers (aCons (fVarF 1) (aCons (fVarF 3) aNil)))))))
def F_are_numbers := runP 4 4 f_are_numbers
theorem d_are_numbers (c_are_open_numbers : CalK P w K mg base 2 "are_open_numbers" 2 (spP K F_are_open_numbers)) (c_are_close_numbers : CalK P w K mg base 2 "are_close_numbers" 3 (spP K F_are_close_numbers)) (c_are_move_numbers : CalK P w K mg base 2 "are_move_numbers" 2 (spP K F_are_move_numbers)) (c_are_turn_numbers : CalK P w K mg base 2 "are_turn_numbers" 2 (spP K F_are_turn_numbers)) (E : XK) : SSs (gmOf P w K mg base N_are_numbers (defScope s_are_numbers) 2 E) (defBody s_are_numbers) f_are_numbers := (sss_cons (ss_if (t_co co_eq (se_varF 2 rfl (.inl rfl)) se_str) (sss_one (ss_ret (sw_call c_are_open_numbers.c (Nat.le_of_ble_eq_true rfl) rfl (sa_cons (se_varF 1 rfl (.inl rfl)) (sa_cons (se_varF 3 rfl (.inl rfl)) sa_nil))))) sss_nil)
  (sss_cons (ss_if (t_co co_eq (se_varF 2 rfl (.inl rfl)) se_str) (sss_one (ss_ret (sw_call c_are_close_numbers.c (Nat.le_of_ble_eq_true rfl) rfl (sa_cons (se_varF 0 rfl (.inl rfl)) (sa_cons (se_varF 1 rfl (.inl rfl)) (sa_cons (se_varF 3 rfl (.inl rfl)) sa_nil)))))) sss_nil)
  (sss_cons (ss_if (t_co co_eq (se_varF 2 rfl (.inl rfl)) se_str) (sss_one (ss_ret (sw_call c_are_move_numbers.c (Nat.le_of_ble_eq_true rfl) rfl (sa_cons (se_varF 1 rfl (.inl rfl)) (sa_cons (se_varF 3 rfl (.inl rfl)) sa_nil))))) sss_nil)
  (sss_one (ss_ret (sw_call c_are_turn_numbers.c (Nat.le_of_ble_eq_true rfl) rfl (sa_cons (se_varF 1 rfl (.inl rfl)) (sa_cons (se_varF 3 rfl (.inl rfl)) sa_nil))))))))
theorem sc_are_numbers : FnScope N_are_numbers ["kind", "factors", "word", "numbers"] (defScope s_are_numbers) := ⟨rfl, rfl, rfl, by decide +kernel, rfl, by decide +kernel, by decide +kernel⟩

/-! is_step_at -/
abbrev s_is_step_at : Stmt := top 39
def N_is_step_at : List Str := ["kind", "factors", "thing", "one"]
def f_is_step_at : FS := (fSeq (fIfS (gOr (gNot (fT (fCall oIsi (aCons (fVarF 2) (aCons (fC (.ty "tuple")) aNil))))) (gOr (fT (fOp oLt (fCall oLen (aCons (fVarF 2) aNil)) (fC (.int 3)))) (gOr (gNot (fT (fCall oIsi (aCons (fOp oIx (fVarF 2) (fC (.int 0))) (aCons (fC (.ty "str")) aNil))))) (fT (fOp (oTIn true "LENGTHS" tab_LENGTHS) (fOp oIx (fVarF 2) (fC (.int 0))) (fC (.cls "LENGTHS"))))))) (fRet (fVa (fC (.bl false)))) fNx)
  (fSeq (fIfS (gOr (fT (fOp oNe (fCall oLen (aCons (fVarF 2) aNil)) (fOp (oTIx "LENGTHS" tab_LENGTHS) (fC (.cls "LENGTHS")) (fOp oIx (fVarF 2) (fC (.int 0)))))) (gNot (fT (fCall oAll (aCons (fFrz (fLc (fItems (fSlT (fVarF 2) (oPart (fC (.int 1))) oNo)) (tName 3) (F.ret true) (fFrz (fCallP F_is_integer (aCons (fVarF 3) aNil))) [3])) aNil))))) (fRet (fVa (fC (.bl false)))) fNx)
  (fRet (fCallP F_are_numbers (aCons (fVarF 0) (aCons (fVarF 1) (aCons (fOp oIx (fVarF 2) (fC (.int 0))) (aCons (fSlT (fVarF 2) (oPart (fC (.int 1))) oNo) aNil))))))))
def F_is_step_at := runP 3 4 f_is_step_at
theorem d_is_step_at (fr_isinstance : mg "isinstance" = none) (fr_tuple : mg "tuple" = none) (fr_len : mg "len" = none) (fr_str : mg "str" = none) (g_LENGTHS : mg "LENGTHS" = some (.ref (He.ga K "LENGTHS"))) (t_LENGTHS : Tab K w "LENGTHS" tab_LENGTHS) (fr_all : mg "all" = none) (c_is_integer : CalK P w K mg base 1 "is_integer" 1 (spP K F_is_integer)) (c_are_numbers : CalK P w K mg base 3 "are_numbers" 4 (spP K F_are_numbers)) (E : XK) : SSs (gmOf P w K mg base N_is_step_at (defScope s_is_step_at) 3 E) (defBody s_is_step_at) f_is_step_at := (sss_cons (ss_if (st_w (stw_or (st_not (st_val (e_bi bi_isi fr_isinstance (sa_cons (se_varF 2 rfl (.inl rfl)) (sa_cons (e_ty fr_tuple) sa_nil))))) (stw_or (t_co co_lt (e_bi bi_len fr_len (sa_cons (se_varF 2 rfl (.inl rfl)) sa_nil)) se_int) (stw_or (st_not (st_val (e_bi bi_isi fr_isinstance (sa_cons (e_ix (se_varF 2 rfl (.inl rfl)) se_int) (sa_cons (e_ty fr_str) sa_nil))))) (stw_or1 (t_co (co_tnotin t_LENGTHS) (e_ix (se_varF 2 rfl (.inl rfl)) se_int) (e_gcls g_LENGTHS))))))) (sss_one (ss_ret (sw_va se_bl))) sss_nil)
  (sss_cons (ss_if (st_w (stw_or (t_co co_ne (e_bi bi_len fr_len (sa_cons (se_varF 2 rfl (.inl rfl)) sa_nil)) (e_tix t_LENGTHS (e_gcls g_LENGTHS) (e_ix (se_varF 2 rfl (.inl rfl)) se_int))) (stw_or1 (st_not (st_val (e_bi bi_all fr_all (sa_cons (se_frz (sw_lc (own := [("one", 3)]) (si_any (se_slT (se_varF 2 rfl (.inl rfl)) (so_part se_int) so_no)) (blkOk_by (by rfl)) (sg_name (i := 3) rfl (.inl rfl) (Is.hlL rfl)) (by decide) sts_nil (se_frz (sw_call c_is_integer.c (Nat.le_of_ble_eq_true rfl) rfl (sa_cons (se_varF 3 rfl (.inl rfl)) sa_nil))))) sa_nil))))))) (sss_one (ss_ret (sw_va se_bl))) sss_nil)
  (sss_one (ss_ret (sw_call c_are_numbers.c (Nat.le_of_ble_eq_true rfl) rfl (sa_cons (se_varF 0 rfl (.inl rfl)) (sa_cons (se_varF 1 rfl (.inl rfl)) (sa_cons (e_ix (se_varF 2 rfl (.inl rfl)) se_int) (sa_cons (se_slT (se_varF 2 rfl (.inl rfl)) (so_part se_int) so_no) sa_nil)))))))))
theorem sc_is_step_at : FnScope N_is_step_at ["kind", "factors", "thing"] (defScope s_is_step_at) := ⟨rfl, rfl, rfl, by decide +kernel, rfl, by decide +kernel, by decide +kernel⟩

/-! changed -/
abbrev s_changed : Stmt := top 33
def N_changed : List Str := ["factors", "pairs", "size", "added", "k", "more", "degree", "many"]
def f_changed : FS := (fSeq (fSet 2 (fVa (fCall oMax (aCons (fOp oAdd (fFrz (fLst (aCons (fCall oLen (aCons (fVarF 0) aNil)) aNil))) (fFrz (fLc (fItems (fVarF 1)) (tTuple 2 (tsCons (tName 6) (tsCons (tName 7) tsNil))) (F.ret true) (fOp oAdd (fVarF 6) (fC (.int 1))) [6, 7]))) aNil))))
  (fSeq (fSet 3 (fLc (fIt oRange1 (aCons (fVarF 2) aNil)) (tName 4) (F.ret true) (fCall oSum (aCons (fFrz (fLc (fItems (fVarF 1)) (tTuple 2 (tsCons (tName 6) (tsCons (tName 7) tsNil))) (fT (fOp oEq (fVarF 6) (fVarF 4))) (fVarF 7) [6, 7])) aNil)) [4]))
  (fRet (fCallP F_trimmed (aCons (fFrz (fLc (fIt oEnum (aCons (fVarF 3) aNil)) (tTuple 2 (tsCons (tName 4) (tsCons (tName 5) tsNil))) (F.ret true) (fOp oAdd (fFrz (fCallP F_factor_at (aCons (fVarF 0) (aCons (fVarF 4) aNil)))) (fVarF 5)) [4, 5])) aNil)))))
def F_changed := runP 2 8 f_changed
theorem d_changed (fr_max : mg "max" = none) (fr_len : mg "len" = none) (fr_range : mg "range" = none) (fr_sum : mg "sum" = none) (c_trimmed : CalK P w K mg base 1 "trimmed" 1 (spP K F_trimmed)) (fr_enumerate : mg "enumerate" = none) (c_factor_at : CalK P w K mg base 1 "factor_at" 2 (spP K F_factor_at)) (E : XK) : SSs (gmOf P w K mg base N_changed (defScope s_changed) 1 E) (defBody s_changed) f_changed := (sss_cons (ss_set (i := 2) rfl (.inl rfl) (sw_va (e_bi bi_max fr_max (sa_cons (e_bo bo_add (se_frz (sw_lst (sa_cons (e_bi bi_len fr_len (sa_cons (se_varF 0 rfl (.inr (.inl rfl))) sa_nil)) sa_nil))) (se_frz (sw_lc (own := [("degree", 6), ("many", 7)]) (si_any (se_varF 1 rfl (.inr (.inl rfl)))) (blkOk_by (by rfl)) (sg_tup (sgs_cons (sg_name (i := 6) rfl (.inl rfl) (Is.hlL rfl)) (sgs_cons (sg_name (i := 7) rfl (.inl rfl) (Is.hlL rfl)) sgs_nil))) (by decide) sts_nil (e_bo bo_add (se_varF 6 rfl (.inl rfl)) se_int)))) sa_nil))) (Is.hl rfl))
  (sss_cons (ss_setLc (i := 3) rfl rfl (by rintro ⟨⟩ h; cases h; rfl) (own := [("k", 4)]) (si_range1 rfl fr_range (sa_cons (se_varF 2 rfl (.inl rfl)) sa_nil)) (blkOk_by (by rfl)) (sg_name (i := 4) rfl (.inr rfl) (Is.hl rfl)) (by decide) sts_nil (e_bi bi_sum fr_sum (sa_cons (se_frz (sw_lc (own := [("degree", 6), ("many", 7)]) (si_any (se_varF 1 rfl (.inr (.inl rfl)))) (blkOk_by (by rfl)) (sg_tup (sgs_cons (sg_name (i := 6) rfl (.inl rfl) (Is.hlL rfl)) (sgs_cons (sg_name (i := 7) rfl (.inl rfl) (Is.hlL rfl)) sgs_nil))) (by decide) (sts_one (t_co co_eq (se_varF 6 rfl (.inl rfl)) (se_varF 4 rfl (.inr (.inl rfl))))) (se_varF 7 rfl (.inl rfl)))) sa_nil)))
  (sss_one (ss_ret (sw_call c_trimmed.c (Nat.le_of_ble_eq_true rfl) rfl (sa_cons (se_frz (sw_lc (own := [("k", 4), ("more", 5)]) (si_enum rfl fr_enumerate (sa_cons (se_varF 3 rfl (.inl rfl)) sa_nil)) (blkOk_by (by rfl)) (sg_tup (sgs_cons (sg_name (i := 4) rfl (.inl rfl) (Is.hlL rfl)) (sgs_cons (sg_name (i := 5) rfl (.inl rfl) (Is.hlL rfl)) sgs_nil))) (by decide) sts_nil (e_bo bo_add (se_frz (sw_call c_factor_at.c (Nat.le_of_ble_eq_true rfl) rfl (sa_cons (se_varF 0 rfl (.inr (.inl rfl))) (sa_cons (se_varF 4 rfl (.inl rfl)) sa_nil)))) (se_varF 5 rfl (.inl rfl))))) sa_nil))))))
theorem sc_changed : FnScope N_changed ["factors", "pairs"] (defScope s_changed) := ⟨rfl, rfl, rfl, by decide +kernel, rfl, by decide +kernel, by decide +kernel⟩

/-! factors_behind -/
abbrev s_factors_behind : Stmt := top 40
def N_factors_behind : List Str := ["kind", "factors", "step", "degree"]
def f_factors_behind : FS := (fSeq (fIfS (fT (fOp oEq (fOp oIx (fVarF 2) (fC (.int 0))) (fC (.str "open")))) (fRet (fCallP F_changed (aCons (fVarF 1) (aCons (fOp oAdd (fFrz (fLst (aCons (fTup (aCons (fOp oIx (fVarF 2) (fC (.int 1))) (aCons (fU oNeg (fOp oIx (fVarF 2) (fC (.int 2)))) aNil))) aNil))) (fFrz (fLc (fItems (fFrz (fCallP F_degrees_of (aCons (fVarF 0) (aCons (fOp oIx (fVarF 2) (fC (.int 1))) aNil))))) (tName 3) (F.ret true) (fTup (aCons (fVarF 3) (aCons (fOp oIx (fVarF 2) (fC (.int 2))) aNil))) [3]))) aNil)))) fNx)
  (fSeq (fIfS (fT (fOp oEq (fOp oIx (fVarF 2) (fC (.int 0))) (fC (.str "close")))) (fRet (fCallP F_changed (aCons (fVarF 1) (aCons (fOp oAdd (fFrz (fLst (aCons (fTup (aCons (fOp oIx (fVarF 2) (fC (.int 1))) (aCons (fOp oIx (fVarF 2) (fC (.int 2))) aNil))) aNil))) (fFrz (fLc (fItems (fFrz (fCallP F_degrees_of (aCons (fVarF 0) (aCons (fOp oIx (fVarF 2) (fC (.int 1))) aNil))))) (tName 3) (F.ret true) (fTup (aCons (fVarF 3) (aCons (fU oNeg (fOp oIx (fVarF 2) (fC (.int 2)))) aNil))) [3]))) aNil)))) fNx)
  (fRet (fMov 1))))
def F_factors_behind := runP 3 4 f_factors_behind
theorem d_factors_behind (c_changed : CalK P w K mg base 2 "changed" 2 (spP K F_changed)) (c_degrees_of : CalK P w K mg base 1 "degrees_of" 2 (spP K F_degrees_of)) (E : XK) : SSs (gmOf P w K mg base N_factors_behind (defScope s_factors_behind) 2 E) (defBody s_factors_behind) f_factors_behind := (sss_cons (ss_if (t_co co_eq (e_ix (se_varF 2 rfl (.inr (.inl rfl))) se_int) se_str) (sss_one (ss_ret (sw_call c_changed.c (Nat.le_of_ble_eq_true rfl) rfl (sa_cons (se_varF 1 rfl (.inl rfl)) (sa_cons (e_bo bo_add (se_frz (sw_lst (sa_cons (se_tup (sa_cons (e_ix (se_varF 2 rfl (.inr (.inl rfl))) se_int) (sa_cons (e_neg (e_ix (se_varF 2 rfl (.inr (.inl rfl))) se_int)) sa_nil))) sa_nil))) (se_frz (sw_lc (own := [("degree", 3)]) (si_any (se_frz (sw_call c_degrees_of.c (Nat.le_of_ble_eq_true rfl) rfl (sa_cons (se_varF 0 rfl (.inl rfl)) (sa_cons (e_ix (se_varF 2 rfl (.inr (.inl rfl))) se_int) sa_nil))))) (blkOk_by (by rfl)) (sg_name (i := 3) rfl (.inl rfl) (Is.hlL rfl)) (by decide) sts_nil (se_tup (sa_cons (se_varF 3 rfl (.inl rfl)) (sa_cons (e_ix (se_varF 2 rfl (.inr (.inl rfl))) se_int) sa_nil)))))) sa_nil))))) sss_nil)
  (sss_cons (ss_if (t_co co_eq (e_ix (se_varF 2 rfl (.inr (.inl rfl))) se_int) se_str) (sss_one (ss_ret (sw_call c_changed.c (Nat.le_of_ble_eq_true rfl) rfl (sa_cons (se_varF 1 rfl (.inl rfl)) (sa_cons (e_bo bo_add (se_frz (sw_lst (sa_cons (se_tup (sa_cons (e_ix (se_varF 2 rfl (.inr (.inl rfl))) se_int) (sa_cons (e_ix (se_varF 2 rfl (.inr (.inl rfl))) se_int) sa_nil))) sa_nil))) (se_frz (sw_lc (own := [("degree", 3)]) (si_any (se_frz (sw_call c_degrees_of.c (Nat.le_of_ble_eq_true rfl) rfl (sa_cons (se_varF 0 rfl (.inl rfl)) (sa_cons (e_ix (se_varF 2 rfl (.inr (.inl rfl))) se_int) sa_nil))))) (blkOk_by (by rfl)) (sg_name (i := 3) rfl (.inl rfl) (Is.hlL rfl)) (by decide) sts_nil (se_tup (sa_cons (se_varF 3 rfl (.inl rfl)) (sa_cons (e_neg (e_ix (se_varF 2 rfl (.inr (.inl rfl))) se_int)) sa_nil)))))) sa_nil))))) sss_nil)
  (sss_one (ss_ret (sw_mov 1 rfl (.inl rfl))))))
theorem sc_factors_behind : FnScope N_factors_behind ["kind", "factors", "step"] (defScope s_factors_behind) := ⟨rfl, rfl, rfl, by decide +kernel, rfl, by decide +kernel, by decide +kernel⟩

/-! are_within -/
abbrev s_are_within : Stmt := top 44
def N_are_within : List Str := ["factors", "places", "degree"]
def f_are_within : FS := (fRet (fVa (fAnd (fOp oLe (fCall oLen (aCons (fVarF 0) aNil)) (fOp oAdd (fVarF 2) (fC (.int 1)))) (fOp oLe (fCall oSum (aCons (fFrz (fCallL oList (aCons (fVarF 0) aNil))) aNil)) (fVarF 1)))))
def F_are_within := runP 3 3 f_are_within
theorem d_are_within (fr_len : mg "len" = none) (fr_sum : mg "sum" = none) (fr_list : mg "list" = none) (E : XK) : SSs (gmOf P w K mg base N_are_within (defScope s_are_within) 0 E) (defBody s_are_within) f_are_within := (sss_one (ss_ret (sw_va (se_and (e_co co_le (e_bi bi_len fr_len (sa_cons (se_varF 0 rfl (.inl rfl)) sa_nil)) (e_bo bo_add (se_varF 2 rfl (.inl rfl)) se_int)) (se_one (e_co co_le (e_bi bi_sum fr_sum (sa_cons (se_frz (w_list fr_list (sa_cons (se_varF 0 rfl (.inl rfl)) sa_nil))) sa_nil)) (se_varF 1 rfl (.inl rfl))))))))
theorem sc_are_within : FnScope N_are_within ["factors", "places", "degree"] (defScope s_are_within) := ⟨rfl, rfl, rfl, by decide +kernel, rfl, by decide +kernel, by decide +kernel⟩

/-! need_bounds -/
abbrev s_need_bounds : Stmt := top 45
def N_need_bounds : List Str := ["kind", "one", "other", "places", "degree", "layout"]
def f_need_bounds : FS := (fSeq (fDrop (fCallP F_need_kind (aCons (fVarF 0) aNil)))
  (fSeq (fIfS (gOr (gNot (fT (fFrz (fCallP F_is_integer (aCons (fVarF 3) aNil))))) (gNot (fT (fChain oLe oLe (fC (.int 0)) (fVarF 3) (fC (.int 6)))))) (fRaise "NoNumber") fNx)
  (fSeq (fIfS (gOr (gNot (fT (fFrz (fCallP F_is_integer (aCons (fVarF 4) aNil))))) (gNot (fT (fChain oLe oLe (fC (.int 0)) (fVarF 4) (fC (.int 8)))))) (fRaise "NoNumber") fNx)
  (fIfS (gNot (fT (fCall oAll (aCons (fFrz (fLc (fItems (fTup (aCons (fVarF 1) (aCons (fVarF 2) aNil)))) (tName 5) (F.ret true) (fFrz (fCallP F_are_within (aCons (fFld "Layout" "factors" (fVarF 5)) (aCons (fVarF 3) (aCons (fVarF 4) aNil))))) [5])) aNil)))) (fRaise "Mismatch") fNx))))
def F_need_bounds := runP 5 6 f_need_bounds
theorem d_need_bounds (c_need_kind : CalK P w K mg base 4 "need_kind" 1 (spP K F_need_kind)) (c_is_integer : CalK P w K mg base 1 "is_integer" 1 (spP K F_is_integer)) (k_MOST_PLACES : ∃ t, mg "MOST_PLACES" = some (.int 6 t)) (e_NoNumber : ExcFK K mg "NoNumber" "NoNumber") (k_MOST_DEGREE : ∃ t, mg "MOST_DEGREE" = some (.int 8 t)) (fr_all : mg "all" = none) (c_are_within : CalK P w K mg base 1 "are_within" 3 (spP K F_are_within)) (cls_Layout : Cls K (He.ga K "Layout")) (noat_factors : NoAttr K (He.ga K "Layout") "factors") (e_Mismatch : ExcFK K mg "Mismatch" "Mismatch") (E : XK) : SSs (gmOf P w K mg base N_need_bounds (defScope s_need_bounds) 4 E) (defBody s_need_bounds) f_need_bounds := (sss_cons (ss_expr (sw_call c_need_kind.c (Nat.le_of_ble_eq_true rfl) rfl (sa_cons (se_varF 0 rfl (.inl rfl)) sa_nil)))
  (sss_cons (ss_if (st_w (stw_or (st_not (st_val (se_frz (sw_call c_is_integer.c (Nat.le_of_ble_eq_true rfl) rfl (sa_cons (se_varF 3 rfl (.inr (.inl rfl))) sa_nil))))) (stw_or1 (st_not (t_ch co_le co_le se_int (se_varF 3 rfl (.inr (.inl rfl))) (e_gint k_MOST_PLACES)))))) (sss_one (ss_raise e_NoNumber.c rfl)) sss_nil)
  (sss_cons (ss_if (st_w (stw_or (st_not (st_val (se_frz (sw_call c_is_integer.c (Nat.le_of_ble_eq_true rfl) rfl (sa_cons (se_varF 4 rfl (.inr (.inl rfl))) sa_nil))))) (stw_or1 (st_not (t_ch co_le co_le se_int (se_varF 4 rfl (.inr (.inl rfl))) (e_gint k_MOST_DEGREE)))))) (sss_one (ss_raise e_NoNumber.c rfl)) sss_nil)
  (sss_one (ss_if (st_not (st_val (e_bi bi_all fr_all (sa_cons (se_frz (sw_lc (own := [("layout", 5)]) (si_any (se_tup (sa_cons (se_varF 1 rfl (.inl rfl)) (sa_cons (se_varF 2 rfl (.inl rfl)) sa_nil)))) (blkOk_by (by rfl)) (sg_name (i := 5) rfl (.inl rfl) (Is.hlL rfl)) (by decide) sts_nil (se_frz (sw_call c_are_within.c (Nat.le_of_ble_eq_true rfl) rfl (sa_cons (se_fld cls_Layout noat_factors (se_varF 5 rfl (.inl rfl))) (sa_cons (se_varF 3 rfl (.inr (.inl rfl))) (sa_cons (se_varF 4 rfl (.inr (.inl rfl))) sa_nil))))))) sa_nil)))) (sss_one (ss_raise e_Mismatch.c rfl)) sss_nil)))))
theorem sc_need_bounds : FnScope N_need_bounds ["kind", "one", "other", "places", "degree"] (defScope s_need_bounds) := ⟨rfl, rfl, rfl, by decide +kernel, rfl, by decide +kernel, by decide +kernel⟩

/-! Layout.__init__ -/
abbrev s_Layout : Stmt := inner (top 27) 0
def N_Layout : List Str := ["self", "factors", "one"]
def f_Layout : FS := (fSeq (fIfS (gOr (gNot (fT (fCall oIsi (aCons (fVarF 1) (aCons (fTup (aCons (fC (.ty "list")) (aCons (fC (.ty "tuple")) aNil))) aNil))))) (gNot (fT (fCall oAll (aCons (fFrz (fLc (fItems (fVarF 1)) (tName 2) (F.ret true) (fAnd (fFrz (fCallP F_is_integer (aCons (fVarF 2) aNil))) (fOp oGe (fVarF 2) (fC (.int 0)))) [2])) aNil))))) (fRaise "NoLayout") fNx)
  (fSeq (fFldPut 0 "Layout" "factors" (fFrz (fCallP F_trimmed (aCons (fVarF 1) aNil))))
  (fSeq (fFldPut 0 "Layout" "degree" (fOp oSub (fCall oLen (aCons (fFldO 0 "Layout" "factors") aNil)) (fC (.int 1))))
  (fSeq (fIfS (fT (fOp oGt (fFldO 0 "Layout" "degree") (fC (.int 40)))) fNo fNx)
  (fFldPut 0 "Layout" "key" (fTup (aCons (fFldO 0 "Layout" "degree") (aCons (fRevT (fFldO 0 "Layout" "factors")) aNil))))))))
def F_Layout := runI 2 3 f_Layout
theorem d_Layout (fr_isinstance : mg "isinstance" = none) (fr_list : mg "list" = none) (fr_tuple : mg "tuple" = none) (fr_all : mg "all" = none) (c_is_integer : CalK P w K mg base 1 "is_integer" 1 (spP K F_is_integer)) (e_NoLayout : ExcFK K mg "NoLayout" "NoLayout") (cls_Layout : Cls K (He.ga K "Layout")) (noat_factors : NoAttr K (He.ga K "Layout") "factors") (c_trimmed : CalK P w K mg base 1 "trimmed" 1 (spP K F_trimmed)) (noat_degree : NoAttr K (He.ga K "Layout") "degree") (fr_len : mg "len" = none) (k_MAX_DEGREE : ∃ t, mg "MAX_DEGREE" = some (.int 40 t)) (noat_key : NoAttr K (He.ga K "Layout") "key") (E : XK) : SSs (gmOf P w K mg base N_Layout (defScope s_Layout) 2 E) (defBody s_Layout) f_Layout := (sss_cons (ss_if (st_w (stw_or (st_not (st_val (e_bi bi_isi fr_isinstance (sa_cons (se_varF 1 rfl (.inl rfl)) (sa_cons (se_tup (sa_cons (e_ty fr_list) (sa_cons (e_ty fr_tuple) sa_nil))) sa_nil))))) (stw_or1 (st_not (st_val (e_bi bi_all fr_all (sa_cons (se_frz (sw_lc (own := [("one", 2)]) (si_any (se_varF 1 rfl (.inl rfl))) (blkOk_by (by rfl)) (sg_name (i := 2) rfl (.inl rfl) (Is.hlL rfl)) (by decide) sts_nil (se_and (se_frz (sw_call c_is_integer.c (Nat.le_of_ble_eq_true rfl) rfl (sa_cons (se_varF 2 rfl (.inl rfl)) sa_nil))) (se_one (e_co co_ge (se_varF 2 rfl (.inl rfl)) se_int))))) sa_nil))))))) (sss_one (ss_raise e_NoLayout.c rfl)) sss_nil)
  (sss_cons (ss_fld (i := 0) cls_Layout noat_factors rfl (.inl rfl) (se_frz (sw_call c_trimmed.c (Nat.le_of_ble_eq_true rfl) rfl (sa_cons (se_varF 1 rfl (.inl rfl)) sa_nil))))
  (sss_cons (ss_fld (i := 0) cls_Layout noat_degree rfl (.inl rfl) (e_bo bo_sub (e_bi bi_len fr_len (sa_cons (se_fldO (i := 0) cls_Layout noat_factors rfl (.inl rfl)) sa_nil)) se_int))
  (sss_cons (ss_if (t_co co_gt (se_fldO (i := 0) cls_Layout noat_degree rfl (.inl rfl)) (e_gint k_MAX_DEGREE)) sss_no sss_nil)
  (sss_one (ss_fld (i := 0) cls_Layout noat_key rfl (.inl rfl) (se_tup (sa_cons (se_fldO (i := 0) cls_Layout noat_degree rfl (.inl rfl)) (sa_cons (se_revT (se_fldO (i := 0) cls_Layout noat_factors rfl (.inl rfl))) sa_nil)))))))))
theorem sc_Layout : FnScope N_Layout ["self", "factors"] (defScope s_Layout) := ⟨rfl, rfl, rfl, by decide +kernel, rfl, by decide +kernel, by decide +kernel⟩

/-! Layout.total -/
abbrev s_total : Stmt := inner (top 27) 4
def N_total : List Str := ["self"]
def f_total : FS := (fRet (fVa (fCall oSum (aCons (fFrz (fCallL oList (aCons (fFld "Layout" "factors" (fVarF 0)) aNil))) aNil))))
def F_total := runP 1 1 f_total
theorem d_total (fr_sum : mg "sum" = none) (fr_list : mg "list" = none) (cls_Layout : Cls K (He.ga K "Layout")) (noat_factors : NoAttr K (He.ga K "Layout") "factors") (E : XK) : SSs (gmOf P w K mg base N_total (defScope s_total) 0 E) (defBody s_total) f_total := (sss_one (ss_ret (sw_va (e_bi bi_sum fr_sum (sa_cons (se_frz (w_list fr_list (sa_cons (se_fld cls_Layout noat_factors (se_varF 0 rfl (.inl rfl))) sa_nil))) sa_nil)))))
theorem sc_total : FnScope N_total ["self"] (defScope s_total) := ⟨rfl, rfl, rfl, by decide +kernel, rfl, by decide +kernel, by decide +kernel⟩

/-! neighbours -/
abbrev s_neighbours : Stmt := top 46
def N_neighbours : List Str := ["kind", "factors", "places", "degree", "found", "k", "step", "behind"]
def f_neighbours : FS := (fSeq (fSet 4 (fLst aNil))
  (fSeq (fFor (fIt oRange2 (aCons (fC (.int 1)) (aCons (fOp oAdd (fVarF 3) (fC (.int 2))) aNil))) (tName 5) (fFor (fItems (fTup (aCons (fTup (aCons (fC (.str "open")) (aCons (fVarF 5) (aCons (fC (.int 1)) aNil)))) (aCons (fTup (aCons (fC (.str "close")) (aCons (fVarF 5) (aCons (fC (.int 1)) aNil)))) aNil)))) (tName 6) (fIfS (fT (fFrz (fCallP F_is_step_at (aCons (fVarF 0) (aCons (fVarF 1) (aCons (fVarF 6) aNil)))))) (fSeq (fSet 7 (fCallP F_factors_behind (aCons (fVarF 0) (aCons (fVarF 1) (aCons (fVarF 6) aNil)))))
  (fIfS (fT (fFrz (fCallP F_are_within (aCons (fVarF 7) (aCons (fVarF 2) (aCons (fVarF 3) aNil)))))) (fDrop (fOwn 4 isLs oAppend (aCons (fVarF 7) aNil))) fNx)) fNx)))
  (fRet (fMov 4))))
def F_neighbours := runP 4 8 f_neighbours
theorem d_neighbours (fr_range : mg "range" = none) (c_is_step_at : CalK P w K mg base 4 "is_step_at" 3 (spP K F_is_step_at)) (c_factors_behind : CalK P w K mg base 3 "factors_behind" 3 (spP K F_factors_behind)) (c_are_within : CalK P w K mg base 1 "are_within" 3 (spP K F_are_within)) (E : XK) : SSs (gmOf P w K mg base N_neighbours (defScope s_neighbours) 4 E) (defBody s_neighbours) f_neighbours := (sss_cons (ss_set (i := 4) rfl (.inl rfl) (sw_lst sa_nil) (Is.hl rfl))
  (sss_cons (ss_for rfl (si_range2 rfl fr_range (sa_cons se_int (sa_cons (e_bo bo_add (se_varF 3 rfl (.inl rfl)) se_int) sa_nil))) (sg_name (i := 5) rfl (.inl rfl) (Is.hl rfl)) (sss_one (ss_for rfl (si_any (se_tup (sa_cons (se_tup (sa_cons se_str (sa_cons (se_varF 5 rfl (.inl rfl)) (sa_cons se_int sa_nil)))) (sa_cons (se_tup (sa_cons se_str (sa_cons (se_varF 5 rfl (.inl rfl)) (sa_cons se_int sa_nil)))) sa_nil)))) (sg_name (i := 6) rfl (.inl rfl) (Is.hl rfl)) (sss_one (ss_if (st_val (se_frz (sw_call c_is_step_at.c (Nat.le_of_ble_eq_true rfl) rfl (sa_cons (se_varF 0 rfl (.inl rfl)) (sa_cons (se_varF 1 rfl (.inl rfl)) (sa_cons (se_varF 6 rfl (.inl rfl)) sa_nil)))))) (sss_cons (ss_set (i := 7) rfl (.inl rfl) (sw_call c_factors_behind.c (Nat.le_of_ble_eq_true rfl) rfl (sa_cons (se_varF 0 rfl (.inl rfl)) (sa_cons (se_varF 1 rfl (.inl rfl)) (sa_cons (se_varF 6 rfl (.inl rfl)) sa_nil)))) (Is.hl rfl))
  (sss_one (ss_if (st_val (se_frz (sw_call c_are_within.c (Nat.le_of_ble_eq_true rfl) rfl (sa_cons (se_varF 7 rfl (.inl rfl)) (sa_cons (se_varF 2 rfl (.inl rfl)) (sa_cons (se_varF 3 rfl (.inl rfl)) sa_nil)))))) (sss_one (ss_expr (w_append (i := 4) rfl (.inl rfl) (sa_cons (se_varF 7 rfl (.inl rfl)) sa_nil)))) sss_nil))) sss_nil)))))
  (sss_one (ss_ret (sw_mov 4 rfl (.inl rfl))))))
theorem sc_neighbours : FnScope N_neighbours ["kind", "factors", "places", "degree"] (defScope s_neighbours) := ⟨rfl, rfl, rfl, by decide +kernel, rfl, by decide +kernel, by decide +kernel⟩

/-! reached -/
abbrev s_reached : Stmt := top 47
def N_reached : List Str := ["kind", "one", "other", "places", "degree", "ahead", "wave", "later", "factors", "behind"]
def f_reached : FS := (fSeq (fPar 5 6 (fDsp (fFld "Layout" "factors" (fVarF 1)) (fC .non)) (fLst (aCons (fFld "Layout" "factors" (fVarF 1)) aNil)))
  (fSeq (whileF (gAnd (fT (fOp oNe (fVarF 6) (fFrz (fLst aNil)))) (gPeek (fT (fOp (oDIn true) (fFld "Layout" "factors" (fVarF 2)) (fVarF 5))))) (fSeq (fSet 7 (fLst aNil))
  (fSeq (fFor (fItems (fVarF 6)) (tName 8) (fFor (fItems (fFrz (fCallP F_neighbours (aCons (fVarF 0) (aCons (fVarF 8) (aCons (fVarF 3) (aCons (fVarF 4) aNil))))))) (tName 9) (fIfS (gPeek (fT (fOp (oDIn true) (fVarF 9) (fVarF 5)))) (fSeq (fPut 5 oSetD (fVarF 8) (fVarF 9))
  (fDrop (fOwn 7 isLs oAppend (aCons (fVarF 9) aNil)))) fNx)))
  (fSet 6 (fMov 7)))))
  (fRet (fMov 5))))
def F_reached := runP 5 10 f_reached
theorem d_reached (cls_Layout : Cls K (He.ga K "Layout")) (noat_factors : NoAttr K (He.ga K "Layout") "factors") (c_neighbours : CalK P w K mg base 5 "neighbours" 4 (spP K F_neighbours)) (E : XK) : SSs (gmOf P w K mg base N_reached (defScope s_reached) 5 E) (defBody s_reached) f_reached := (sss_cons (ss_par (i := 5) (j := 6) rfl rfl (by decide) rfl rfl (sw_dsp (se_fld cls_Layout noat_factors (se_varF 1 rfl (.inl rfl))) se_non) (sw_lst (sa_cons (se_fld cls_Layout noat_factors (se_varF 1 rfl (.inl rfl))) sa_nil)) (by rintro ⟨⟩ h; cases h; rfl))
  (sss_cons (ss_while rfl (st_w (stw_and (t_co co_ne (se_varF 6 rfl (.inl rfl)) (se_frz (sw_lst sa_nil))) (stw_and1 (st_peek (st_dnotin (se_fld cls_Layout noat_factors (se_varF 2 rfl (.inl rfl))) (se_varF 5 rfl (.inl rfl))))))) (sss_cons (ss_set (i := 7) rfl (.inl rfl) (sw_lst sa_nil) (Is.hl rfl))
  (sss_cons (ss_for rfl (si_any (se_varF 6 rfl (.inl rfl))) (sg_name (i := 8) rfl (.inl rfl) (Is.hl rfl)) (sss_one (ss_for rfl (si_any (se_frz (sw_call c_neighbours.c (Nat.le_of_ble_eq_true rfl) rfl (sa_cons (se_varF 0 rfl (.inl rfl)) (sa_cons (se_varF 8 rfl (.inl rfl)) (sa_cons (se_varF 3 rfl (.inl rfl)) (sa_cons (se_varF 4 rfl (.inl rfl)) sa_nil))))))) (sg_name (i := 9) rfl (.inl rfl) (Is.hl rfl)) (sss_one (ss_if (st_peek (st_dnotin (se_varF 9 rfl (.inl rfl)) (se_varF 5 rfl (.inl rfl)))) (sss_cons (ss_put (i := 5) put_dict (fun _ is => is.setD) rfl (.inl rfl) (se_varF 8 rfl (.inl rfl)) (se_varF 9 rfl (.inl rfl)))
  (sss_one (ss_expr (w_append (i := 7) rfl (.inl rfl) (sa_cons (se_varF 9 rfl (.inl rfl)) sa_nil))))) sss_nil)))))
  (sss_one (ss_set (i := 6) rfl (.inl rfl) (sw_mov 7 rfl (.inl rfl)) (Is.hl rfl))))))
  (sss_one (ss_ret (sw_mov 5 rfl (.inl rfl))))))
theorem sc_reached : FnScope N_reached ["kind", "one", "other", "places", "degree"] (defScope s_reached) := ⟨rfl, rfl, rfl, by decide +kernel, rfl, by decide +kernel, by decide +kernel⟩

/-! way_to -/
abbrev s_way_to : Stmt := top 48
def N_way_to : List Str := ["ahead", "factors", "found", "here"]
def f_way_to : FS := (fSeq (fPar 2 3 (fLst aNil) (fMov 1))
  (fSeq (whileF (fT (fOp oNotN (fVarF 3) (fC .non))) (fSeq (fDrop (fOwn 2 isLs oAppend (aCons (fVarF 3) aNil)))
  (fSet 3 (fVa (fOp oDGet (fVarF 0) (fVarF 3))))))
  (fRet (fRevL (fVarF 2)))))
def F_way_to := runP 2 4 f_way_to
theorem d_way_to  (E : XK) : SSs (gmOf P w K mg base N_way_to (defScope s_way_to) 0 E) (defBody s_way_to) f_way_to := (sss_cons (ss_par (i := 2) (j := 3) rfl rfl (by decide) rfl rfl (sw_lst sa_nil) (sw_mov 1 rfl (.inl rfl)) (by rintro ⟨⟩ h; cases h; rfl))
  (sss_cons (ss_while rfl (t_co co_isnot (se_varF 3 rfl (.inl rfl)) se_non) (sss_cons (ss_expr (w_append (i := 2) rfl (.inl rfl) (sa_cons (se_varF 3 rfl (.inl rfl)) sa_nil)))
  (sss_one (ss_set (i := 3) rfl (.inl rfl) (sw_va (se_dget (se_varF 0 rfl (.inl rfl)) (se_varF 3 rfl (.inl rfl)))) (Is.hl rfl)))))
  (sss_one (ss_ret (sw_revL (se_varF 2 rfl (.inl rfl)))))))
theorem sc_way_to : FnScope N_way_to ["ahead", "factors"] (defScope s_way_to) := ⟨rfl, rfl, rfl, by decide +kernel, rfl, by decide +kernel, by decide +kernel⟩

/-! shortest -/
abbrev s_shortest : Stmt := top 49
def N_shortest : List Str := ["kind", "one", "other", "places", "degree", "ahead", "factors"]
def f_shortest : FS := (fSeq (fDrop (fCallP F_need_bounds (aCons (fVarF 0) (aCons (fVarF 1) (aCons (fVarF 2) (aCons (fVarF 3) (aCons (fVarF 4) aNil)))))))
  (fSeq (fSet 5 (fCallP F_reached (aCons (fVarF 0) (aCons (fVarF 1) (aCons (fVarF 2) (aCons (fVarF 3) (aCons (fVarF 4) aNil)))))))
  (fSeq (fIfS (fT (fOp (oDIn true) (fFld "Layout" "factors" (fVarF 2)) (fVarF 5))) (fRet (fVa (fC .non))) fNx)
  (fRet (fLc (fItems (fFrz (fCallP F_way_to (aCons (fVarF 5) (aCons (fFld "Layout" "factors" (fVarF 2)) aNil))))) (tName 6) (F.ret true) (fFrz (fMake "Layout" F_Layout (aCons (fVarF 6) aNil))) [6])))))
def F_shortest := runP 5 7 f_shortest
theorem d_shortest (c_need_bounds : CalK P w K mg base 5 "need_bounds" 5 (spP K F_need_bounds)) (c_reached : CalK P w K mg base 6 "reached" 5 (spP K F_reached)) (cls_Layout : Cls K (He.ga K "Layout")) (noat_factors : NoAttr K (He.ga K "Layout") "factors") (c_way_to : CalK P w K mg base 1 "way_to" 2 (spP K F_way_to)) (m_Layout : CalMK P w K mg base 3 "Layout" "Layout" 2 (spI K F_Layout)) (E : XK) : SSs (gmOf P w K mg base N_shortest (defScope s_shortest) 6 E) (defBody s_shortest) f_shortest := (sss_cons (ss_expr (sw_call c_need_bounds.c (Nat.le_of_ble_eq_true rfl) rfl (sa_cons (se_varF 0 rfl (.inl rfl)) (sa_cons (se_varF 1 rfl (.inl rfl)) (sa_cons (se_varF 2 rfl (.inl rfl)) (sa_cons (se_varF 3 rfl (.inl rfl)) (sa_cons (se_varF 4 rfl (.inl rfl)) sa_nil)))))))
  (sss_cons (ss_set (i := 5) rfl (.inl rfl) (sw_call c_reached.c (Nat.le_of_ble_eq_true rfl) rfl (sa_cons (se_varF 0 rfl (.inl rfl)) (sa_cons (se_varF 1 rfl (.inl rfl)) (sa_cons (se_varF 2 rfl (.inl rfl)) (sa_cons (se_varF 3 rfl (.inl rfl)) (sa_cons (se_varF 4 rfl (.inl rfl)) sa_nil)))))) (Is.hl rfl))
  (sss_cons (ss_if (st_dnotin (se_fld cls_Layout noat_factors (se_varF 2 rfl (.inl rfl))) (se_varF 5 rfl (.inl rfl))) (sss_one (ss_ret (sw_va se_non))) sss_nil)
  (sss_one (ss_ret (sw_lc (own := [("factors", 6)]) (si_any (se_frz (sw_call c_way_to.c (Nat.le_of_ble_eq_true rfl) rfl (sa_cons (se_varF 5 rfl (.inl rfl)) (sa_cons (se_fld cls_Layout noat_factors (se_varF 2 rfl (.inl rfl))) sa_nil))))) (blkOk_by (by rfl)) (sg_name (i := 6) rfl (.inl rfl) (Is.hlL rfl)) (by decide) sts_nil (se_frz (sw_make m_Layout.c (Nat.le_of_ble_eq_true rfl) rfl (sa_cons (se_varF 6 rfl (.inl rfl)) sa_nil)))))))))
theorem sc_shortest : FnScope N_shortest ["kind", "one", "other", "places", "degree"] (defScope s_shortest) := ⟨rfl, rfl, rfl, by decide +kernel, rfl, by decide +kernel, by decide +kernel⟩

/-! distance -/
abbrev s_distance : Stmt := top 50
def N_distance : List Str := ["kind", "one", "other", "places", "degree", "way"]
def f_distance : FS := (fSeq (fSet 5 (fCallP F_shortest (aCons (fVarF 0) (aCons (fVarF 1) (aCons (fVarF 2) (aCons (fVarF 3) (aCons (fVarF 4) aNil)))))))
  (fRet (fIf (fT (fOp oIsN (fVarF 5) (fC .non))) (fVa (fC .non)) (fVa (fOp oSub (fCall oLen (aCons (fVarF 5) aNil)) (fC (.int 1)))))))
def F_distance := runP 5 6 f_distance
theorem d_distance (c_shortest : CalK P w K mg base 7 "shortest" 5 (spP K F_shortest)) (fr_len : mg "len" = none) (E : XK) : SSs (gmOf P w K mg base N_distance (defScope s_distance) 7 E) (defBody s_distance) f_distance := (sss_cons (ss_set (i := 5) rfl (.inl rfl) (sw_call c_shortest.c (Nat.le_of_ble_eq_true rfl) rfl (sa_cons (se_varF 0 rfl (.inl rfl)) (sa_cons (se_varF 1 rfl (.inl rfl)) (sa_cons (se_varF 2 rfl (.inl rfl)) (sa_cons (se_varF 3 rfl (.inl rfl)) (sa_cons (se_varF 4 rfl (.inl rfl)) sa_nil)))))) (Is.hl rfl))
  (sss_one (ss_ret (sw_if (t_co co_is (se_varF 5 rfl (.inl rfl)) se_non) (sw_va se_non) (sw_va (e_bo bo_sub (e_bi bi_len fr_len (sa_cons (se_varF 5 rfl (.inl rfl)) sa_nil)) se_int))))))
theorem sc_distance : FnScope N_distance ["kind", "one", "other", "places", "degree"] (defScope s_distance) := ⟨rfl, rfl, rfl, by decide +kernel, rfl, by decide +kernel, by decide +kernel⟩

end
end FL
set_option Elab.async false
set_option linter.all false
set_option maxRecDepth 100000
set_option maxHeartbeats 4000000
namespace FL
open PySem PySem.Spec PyProof.Rows L2
section
variable {P : Program} {w : World} {K : PySem.W.Frag} {mg : Str → Option Value} {base : Heap}
/-! price_paper -/
abbrev s_price_paper : Stmt := top 51
def N_price_paper : List Str := ["kind", "one", "other", "places", "degree", "many", "factors", "ahead", "prices", "price"]
def f_price_paper : FS := (fSeq (fSet 5 (fCallP F_distance (aCons (fVarF 0) (aCons (fVarF 1) (aCons (fVarF 2) (aCons (fVarF 3) (aCons (fVarF 4) aNil)))))))
  (fSeq (fIfS (fT (fOp oIsN (fVarF 5) (fC .non))) (fRet (fVa (fC .non))) fNx)
  (fSeq (fPar 7 8 (fCallP F_reached (aCons (fVarF 0) (aCons (fVarF 1) (aCons (fVarF 2) (aCons (fVarF 3) (aCons (fVarF 4) aNil)))))) (fNew (.dt [])))
  (fSeq (fFor (fKeys (fVarL 7)) (tName 6) (fPut 8 oSetD (fIf (fT (fOp oIsN (fOp oDGet (fVarL 7) (fVarF 6)) (fC .non))) (fC (.int 0)) (fOp oAdd (fPeek (fOp oDGet (fVarF 8) (fOp oDGet (fVarL 7) (fVarF 6)))) (fC (.int 1)))) (fVarF 6)))
  (fRet (fDc (fItms (fVarL 8)) (tTuple 2 (tsCons (tName 6) (tsCons (tName 9) tsNil))) (fT (fOp oLt (fVarF 9) (fCall oMax (aCons (fVarF 5) (aCons (fC (.int 1)) aNil))))) (fVarF 6) (fVarF 9) [6, 9]))))))
def F_price_paper := runP 5 10 f_price_paper
theorem d_price_paper (c_distance : CalK P w K mg base 8 "distance" 5 (spP K F_distance)) (c_reached : CalK P w K mg base 6 "reached" 5 (spP K F_reached)) (fr_max : mg "max" = none) (E : XK) : SSs (gmOf P w K mg base N_price_paper (defScope s_price_paper) 8 E) (defBody s_price_paper) f_price_paper := (sss_cons (ss_set (i := 5) rfl (.inr rfl) (sw_call c_distance.c (Nat.le_of_ble_eq_true rfl) rfl (sa_cons (se_varF 0 rfl (.inl rfl)) (sa_cons (se_varF 1 rfl (.inl rfl)) (sa_cons (se_varF 2 rfl (.inl rfl)) (sa_cons (se_varF 3 rfl (.inl rfl)) (sa_cons (se_varF 4 rfl (.inl rfl)) sa_nil)))))) (Is.hl rfl))
  (sss_cons (ss_if (t_co co_is (se_varF 5 rfl (.inr (.inl rfl))) se_non) (sss_one (ss_ret (sw_va se_non))) sss_nil)
  (sss_cons (ss_par (i := 7) (j := 8) rfl rfl (by decide) rfl rfl (sw_call c_reached.c (Nat.le_of_ble_eq_true rfl) rfl (sa_cons (se_varF 0 rfl (.inl rfl)) (sa_cons (se_varF 1 rfl (.inl rfl)) (sa_cons (se_varF 2 rfl (.inl rfl)) (sa_cons (se_varF 3 rfl (.inl rfl)) (sa_cons (se_varF 4 rfl (.inl rfl)) sa_nil)))))) sw_newT (by rintro ⟨⟩ h; cases h; rfl))
  (sss_cons (ss_for rfl (si_keysL (se_varL 7 rfl (.inl rfl))) (sg_name (i := 6) rfl (.inl rfl) (Is.hl rfl)) (sss_one (ss_put (i := 8) put_dict (fun _ is => is.setD) rfl (.inl rfl) (se_if (t_co co_is (se_dget (se_varL 7 rfl (.inl rfl)) (se_varF 6 rfl (.inl rfl))) se_non) se_int (e_bo bo_add (se_peek (se_dget (se_varF 8 rfl (.inl rfl)) (se_dget (se_varL 7 rfl (.inl rfl)) (se_varF 6 rfl (.inl rfl))))) se_int)) (se_varF 6 rfl (.inl rfl)))))
  (sss_one (ss_ret (sw_dc (own := [("factors", 6), ("price", 9)]) (si_itemsL (se_varL 8 rfl (.inl rfl))) (blkOk_by (by rfl)) (sg_tup (sgs_cons (sg_name (i := 6) rfl (.inl rfl) (Is.hlL rfl)) (sgs_cons (sg_name (i := 9) rfl (.inl rfl) (Is.hlL rfl)) sgs_nil))) (by decide) (sts_one (t_co co_lt (se_varF 9 rfl (.inl rfl)) (e_bi bi_max fr_max (sa_cons (se_varF 5 rfl (.inr (.inl rfl))) (sa_cons se_int sa_nil))))) (se_varF 6 rfl (.inl rfl)) (se_varF 9 rfl (.inl rfl)))))))))
theorem sc_price_paper : FnScope N_price_paper ["kind", "one", "other", "places", "degree"] (defScope s_price_paper) := ⟨rfl, rfl, rfl, by decide +kernel, rfl, by decide +kernel, by decide +kernel⟩

/-! closed_paper -/
abbrev s_closed_paper : Stmt := top 52
def N_closed_paper : List Str := ["kind", "one", "other", "places", "degree", "ahead"]
def f_closed_paper : FS := (fSeq (fDrop (fCallP F_need_bounds (aCons (fVarF 0) (aCons (fVarF 1) (aCons (fVarF 2) (aCons (fVarF 3) (aCons (fVarF 4) aNil)))))))
  (fSeq (fSet 5 (fCallP F_reached (aCons (fVarF 0) (aCons (fVarF 1) (aCons (fVarF 2) (aCons (fVarF 3) (aCons (fVarF 4) aNil)))))))
  (fRet (fIf (fT (fOp (oDIn false) (fFld "Layout" "factors" (fVarF 2)) (fVarF 5))) (fVa (fC .non)) (fCallL oList (aCons (fVarF 5) aNil))))))
def F_closed_paper := runP 5 6 f_closed_paper
theorem d_closed_paper (c_need_bounds : CalK P w K mg base 5 "need_bounds" 5 (spP K F_need_bounds)) (c_reached : CalK P w K mg base 6 "reached" 5 (spP K F_reached)) (cls_Layout : Cls K (He.ga K "Layout")) (noat_factors : NoAttr K (He.ga K "Layout") "factors") (fr_list : mg "list" = none) (E : XK) : SSs (gmOf P w K mg base N_closed_paper (defScope s_closed_paper) 6 E) (defBody s_closed_paper) f_closed_paper := (sss_cons (ss_expr (sw_call c_need_bounds.c (Nat.le_of_ble_eq_true rfl) rfl (sa_cons (se_varF 0 rfl (.inl rfl)) (sa_cons (se_varF 1 rfl (.inl rfl)) (sa_cons (se_varF 2 rfl (.inl rfl)) (sa_cons (se_varF 3 rfl (.inl rfl)) (sa_cons (se_varF 4 rfl (.inl rfl)) sa_nil)))))))
  (sss_cons (ss_set (i := 5) rfl (.inl rfl) (sw_call c_reached.c (Nat.le_of_ble_eq_true rfl) rfl (sa_cons (se_varF 0 rfl (.inl rfl)) (sa_cons (se_varF 1 rfl (.inl rfl)) (sa_cons (se_varF 2 rfl (.inl rfl)) (sa_cons (se_varF 3 rfl (.inl rfl)) (sa_cons (se_varF 4 rfl (.inl rfl)) sa_nil)))))) (Is.hl rfl))
  (sss_one (ss_ret (sw_if (st_din (se_fld cls_Layout noat_factors (se_varF 2 rfl (.inl rfl))) (se_varF 5 rfl (.inl rfl))) (sw_va se_non) (w_list fr_list (sa_cons (se_varF 5 rfl (.inl rfl)) sa_nil)))))))
theorem sc_closed_paper : FnScope N_closed_paper ["kind", "one", "other", "places", "degree"] (defScope s_closed_paper) := ⟨rfl, rfl, rfl, by decide +kernel, rfl, by decide +kernel, by decide +kernel⟩

/-! are_factors -/
abbrev s_are_factors : Stmt := top 53
def N_are_factors : List Str := ["thing", "places", "degree", "one"]
def f_are_factors : FS := (fSeq (fIfS (gOr (gNot (fT (fCall oIsi (aCons (fVarF 0) (aCons (fC (.ty "tuple")) aNil))))) (gNot (fT (fCall oAll (aCons (fFrz (fLc (fItems (fVarF 0)) (tName 3) (F.ret true) (fAnd (fFrz (fCallP F_is_integer (aCons (fVarF 3) aNil))) (fOp oGe (fVarF 3) (fC (.int 0)))) [3])) aNil))))) (fRet (fVa (fC (.bl false)))) fNx)
  (fRet (fVa (fAnd (fFrz (fCallP F_are_within (aCons (fVarF 0) (aCons (fVarF 1) (aCons (fVarF 2) aNil))))) (fOr (fOp oEq (fVarF 0) (fTup aNil)) (fOp oGt (fOp oIx (fVarF 0) (fU oNeg (fC (.int 1)))) (fC (.int 0))))))))
def F_are_factors := runP 3 4 f_are_factors
theorem d_are_factors (fr_isinstance : mg "isinstance" = none) (fr_tuple : mg "tuple" = none) (fr_all : mg "all" = none) (c_is_integer : CalK P w K mg base 1 "is_integer" 1 (spP K F_is_integer)) (c_are_within : CalK P w K mg base 1 "are_within" 3 (spP K F_are_within)) (E : XK) : SSs (gmOf P w K mg base N_are_factors (defScope s_are_factors) 1 E) (defBody s_are_factors) f_are_factors := (sss_cons (ss_if (st_w (stw_or (st_not (st_val (e_bi bi_isi fr_isinstance (sa_cons (se_varF 0 rfl (.inl rfl)) (sa_cons (e_ty fr_tuple) sa_nil))))) (stw_or1 (st_not (st_val (e_bi bi_all fr_all (sa_cons (se_frz (sw_lc (own := [("one", 3)]) (si_any (se_varF 0 rfl (.inl rfl))) (blkOk_by (by rfl)) (sg_name (i := 3) rfl (.inl rfl) (Is.hlL rfl)) (by decide) sts_nil (se_and (se_frz (sw_call c_is_integer.c (Nat.le_of_ble_eq_true rfl) rfl (sa_cons (se_varF 3 rfl (.inl rfl)) sa_nil))) (se_one (e_co co_ge (se_varF 3 rfl (.inl rfl)) se_int))))) sa_nil))))))) (sss_one (ss_ret (sw_va se_bl))) sss_nil)
  (sss_one (ss_ret (sw_va (se_and (se_frz (sw_call c_are_within.c (Nat.le_of_ble_eq_true rfl) rfl (sa_cons (se_varF 0 rfl (.inl rfl)) (sa_cons (se_varF 1 rfl (.inl rfl)) (sa_cons (se_varF 2 rfl (.inl rfl)) sa_nil))))) (se_one (se_or (e_co co_eq (se_varF 0 rfl (.inl rfl)) (se_tup sa_nil)) (se_one (e_co co_gt (e_ix (se_varF 0 rfl (.inl rfl)) (e_neg se_int)) se_int)))))))))
theorem sc_are_factors : FnScope N_are_factors ["thing", "places", "degree"] (defScope s_are_factors) := ⟨rfl, rfl, rfl, by decide +kernel, rfl, by decide +kernel, by decide +kernel⟩

/-! shows_distance -/
abbrev s_shows_distance : Stmt := top 54
def N_shows_distance : List Str := ["kind", "one", "other", "places", "degree", "number", "thing", "factors", "price", "behind", "key"]
def f_shows_distance : FS := (fSeq (fDrop (fCallP F_need_bounds (aCons (fVarF 0) (aCons (fVarF 1) (aCons (fVarF 2) (aCons (fVarF 3) (aCons (fVarF 4) aNil)))))))
  (fSeq (fIfS (gOr (gNot (fT (fCall oIsiX (aCons (fVarF 6) (aCons (fC (.ty "dict")) aNil))))) (gNot (fT (fCall oAll (aCons (fFrz (fLc (fItems (fFrz (fCallL oListX (aCons (fVarF 6) aNil)))) (tName 10) (F.ret true) (fFrz (fCallP F_are_factors (aCons (fVarF 10) (aCons (fVarF 3) (aCons (fVarF 4) aNil))))) [10])) aNil))))) (fRet (fVa (fC (.bl false)))) fNx)
  (fSeq (fIfS (gNot (fT (fCall oAll (aCons (fFrz (fLc (fItems (fFrz (fListV (fVarF 6)))) (tName 8) (F.ret true) (fAnd (fFrz (fCallP F_is_integer (aCons (fVarF 8) aNil))) (fOp oGe (fVarF 8) (fC (.int 0)))) [8])) aNil)))) (fRet (fVa (fC (.bl false)))) fNx)
  (fSeq (fIfS (gOr (fT (fOp oNe (fDGet2 (fVarF 6) (fFld "Layout" "factors" (fVarF 1)) (fU oNeg (fC (.int 1)))) (fC (.int 0)))) (fT (fOp oLt (fDGet2 (fVarF 6) (fFld "Layout" "factors" (fVarF 2)) (fVarF 5)) (fVarF 5)))) (fRet (fVa (fC (.bl false)))) fNx)
  (fSeq (fFor (fItms (fVarL 6)) (tTuple 2 (tsCons (tName 7) (tsCons (tName 8) tsNil))) (fIfS (fT (fOp oLt (fVarF 8) (fOp oSub (fVarF 5) (fC (.int 1))))) (fFor (fItems (fFrz (fCallP F_neighbours (aCons (fVarF 0) (aCons (fVarF 7) (aCons (fVarF 3) (aCons (fVarF 4) aNil))))))) (tName 9) (fIfS (fT (fOp oGt (fDGet2 (fVarF 6) (fVarF 9) (fOp oAdd (fVarF 8) (fC (.int 2)))) (fOp oAdd (fVarF 8) (fC (.int 1))))) (fRet (fVa (fC (.bl false)))) fNx)) fNx))
  (fRet (fVa (fC (.bl true)))))))))
def F_shows_distance := runP 7 11 f_shows_distance
theorem d_shows_distance (c_need_bounds : CalK P w K mg base 5 "need_bounds" 5 (spP K F_need_bounds)) (fr_isinstance : mg "isinstance" = none) (fr_dict : mg "dict" = none) (fr_all : mg "all" = none) (fr_list : mg "list" = none) (c_are_factors : CalK P w K mg base 2 "are_factors" 3 (spP K F_are_factors)) (c_is_integer : CalK P w K mg base 1 "is_integer" 1 (spP K F_is_integer)) (cls_Layout : Cls K (He.ga K "Layout")) (noat_factors : NoAttr K (He.ga K "Layout") "factors") (c_neighbours : CalK P w K mg base 5 "neighbours" 4 (spP K F_neighbours)) (E : XK) : SSs (gmOf P w K mg base N_shows_distance (defScope s_shows_distance) 5 E) (defBody s_shows_distance) f_shows_distance := (sss_cons (ss_expr (sw_call c_need_bounds.c (Nat.le_of_ble_eq_true rfl) rfl (sa_cons (se_varF 0 rfl (.inl rfl)) (sa_cons (se_varF 1 rfl (.inl rfl)) (sa_cons (se_varF 2 rfl (.inl rfl)) (sa_cons (se_varF 3 rfl (.inr (.inl rfl))) (sa_cons (se_varF 4 rfl (.inr (.inl rfl))) sa_nil)))))))
  (sss_cons (ss_if (st_w (stw_or (st_not (st_val (e_bi bi_isiX fr_isinstance (sa_cons (se_varF 6 rfl (.inl rfl)) (sa_cons (e_ty fr_dict) sa_nil))))) (stw_or1 (st_not (st_val (e_bi bi_all fr_all (sa_cons (se_frz (sw_lc (own := [("key", 10)]) (si_any (se_frz (w_listX fr_list (sa_cons (se_varF 6 rfl (.inl rfl)) sa_nil)))) (blkOk_by (by rfl)) (sg_name (i := 10) rfl (.inl rfl) (Is.hlL rfl)) (by decide) sts_nil (se_frz (sw_call c_are_factors.c (Nat.le_of_ble_eq_true rfl) rfl (sa_cons (se_varF 10 rfl (.inl rfl)) (sa_cons (se_varF 3 rfl (.inr (.inl rfl))) (sa_cons (se_varF 4 rfl (.inr (.inl rfl))) sa_nil))))))) sa_nil))))))) (sss_one (ss_ret (sw_va se_bl))) sss_nil)
  (sss_cons (ss_if (st_not (st_val (e_bi bi_all fr_all (sa_cons (se_frz (sw_lc (own := [("price", 8)]) (si_any (se_frz (w_listVals fr_list (se_varF 6 rfl (.inl rfl))))) (blkOk_by (by rfl)) (sg_name (i := 8) rfl (.inl rfl) (Is.hlL rfl)) (by decide) sts_nil (se_and (se_frz (sw_call c_is_integer.c (Nat.le_of_ble_eq_true rfl) rfl (sa_cons (se_varF 8 rfl (.inl rfl)) sa_nil))) (se_one (e_co co_ge (se_varF 8 rfl (.inl rfl)) se_int))))) sa_nil)))) (sss_one (ss_ret (sw_va se_bl))) sss_nil)
  (sss_cons (ss_if (st_w (stw_or (t_co co_ne (se_dget2 (se_varF 6 rfl (.inl rfl)) (se_fld cls_Layout noat_factors (se_varF 1 rfl (.inl rfl))) (e_neg se_int)) se_int) (stw_or1 (t_co co_lt (se_dget2 (se_varF 6 rfl (.inl rfl)) (se_fld cls_Layout noat_factors (se_varF 2 rfl (.inl rfl))) (se_varF 5 rfl (.inl rfl))) (se_varF 5 rfl (.inl rfl)))))) (sss_one (ss_ret (sw_va se_bl))) sss_nil)
  (sss_cons (ss_for rfl (si_itemsL (se_varL 6 rfl (.inl rfl))) (sg_tup (sgs_cons (sg_name (i := 7) rfl (.inl rfl) (Is.hl rfl)) (sgs_cons (sg_name (i := 8) rfl (.inl rfl) (Is.hl rfl)) sgs_nil))) (sss_one (ss_if (t_co co_lt (se_varF 8 rfl (.inl rfl)) (e_bo bo_sub (se_varF 5 rfl (.inl rfl)) se_int)) (sss_one (ss_for rfl (si_any (se_frz (sw_call c_neighbours.c (Nat.le_of_ble_eq_true rfl) rfl (sa_cons (se_varF 0 rfl (.inl rfl)) (sa_cons (se_varF 7 rfl (.inl rfl)) (sa_cons (se_varF 3 rfl (.inr (.inl rfl))) (sa_cons (se_varF 4 rfl (.inr (.inl rfl))) sa_nil))))))) (sg_name (i := 9) rfl (.inl rfl) (Is.hl rfl)) (sss_one (ss_if (t_co co_gt (se_dget2 (se_varF 6 rfl (.inl rfl)) (se_varF 9 rfl (.inl rfl)) (e_bo bo_add (se_varF 8 rfl (.inl rfl)) se_int)) (e_bo bo_add (se_varF 8 rfl (.inl rfl)) se_int)) (sss_one (ss_ret (sw_va se_bl))) sss_nil)))) sss_nil)))
  (sss_one (ss_ret (sw_va se_bl))))))))
theorem sc_shows_distance : FnScope N_shows_distance ["kind", "one", "other", "places", "degree", "number", "thing"] (defScope s_shows_distance) := ⟨rfl, rfl, rfl, by decide +kernel, rfl, by decide +kernel, by decide +kernel⟩

/-! shows_apart -/
abbrev s_shows_apart : Stmt := top 55
def N_shows_apart : List Str := ["kind", "one", "other", "places", "degree", "thing", "there", "factors", "behind"]
def f_shows_apart : FS := (fSeq (fDrop (fCallP F_need_bounds (aCons (fVarF 0) (aCons (fVarF 1) (aCons (fVarF 2) (aCons (fVarF 3) (aCons (fVarF 4) aNil)))))))
  (fSeq (fIfS (gOr (gNot (fT (fCall oIsi (aCons (fVarF 5) (aCons (fC (.ty "list")) aNil))))) (gNot (fT (fCall oAll (aCons (fFrz (fKeep 1 (fLc (fItems (fVarF 5)) (tName 1) (F.ret true) (fFrz (fCallP F_are_factors (aCons (fVarF 1) (aCons (fVarF 3) (aCons (fVarF 4) aNil))))) [1]))) aNil))))) (fRet (fVa (fC (.bl false)))) fNx)
  (fSeq (fSet 6 (fDc (fItems (fVarF 5)) (tName 7) (F.ret true) (fVarF 7) (fC (.bl true)) [7]))
  (fSeq (fIfS (gOr (fT (fOp oLt (fCall oLen (aCons (fVarF 6) aNil)) (fCall oLen (aCons (fVarF 5) aNil)))) (gOr (fT (fOp (oDIn true) (fFld "Layout" "factors" (fVarF 1)) (fVarF 6))) (fT (fOp (oDIn false) (fFld "Layout" "factors" (fVarF 2)) (fVarF 6))))) (fRet (fVa (fC (.bl false)))) fNx)
  (fRet (fVa (fCall oAll (aCons (fFrz (fLc2 (fItems (fVarF 5)) (tName 7) (F.ret true) (fItems (fFrz (fCallP F_neighbours (aCons (fVarF 0) (aCons (fVarF 7) (aCons (fVarF 3) (aCons (fVarF 4) aNil))))))) (tName 8) (F.ret true) (fOp (oDIn false) (fVarF 8) (fVarF 6)) [7, 8] [8])) aNil))))))))
def F_shows_apart := runP 6 9 f_shows_apart
theorem d_shows_apart (c_need_bounds : CalK P w K mg base 5 "need_bounds" 5 (spP K F_need_bounds)) (fr_isinstance : mg "isinstance" = none) (fr_list : mg "list" = none) (fr_all : mg "all" = none) (c_are_factors : CalK P w K mg base 2 "are_factors" 3 (spP K F_are_factors)) (fr_len : mg "len" = none) (cls_Layout : Cls K (He.ga K "Layout")) (noat_factors : NoAttr K (He.ga K "Layout") "factors") (c_neighbours : CalK P w K mg base 5 "neighbours" 4 (spP K F_neighbours)) (E : XK) : SSs (gmOf P w K mg base N_shows_apart (defScope s_shows_apart) 5 E) (defBody s_shows_apart) f_shows_apart := (sss_cons (ss_expr (sw_call c_need_bounds.c (Nat.le_of_ble_eq_true rfl) rfl (sa_cons (se_varF 0 rfl (.inr (.inl rfl))) (sa_cons (se_varF 1 rfl (.inl rfl)) (sa_cons (se_varF 2 rfl (.inl rfl)) (sa_cons (se_varF 3 rfl (.inr (.inl rfl))) (sa_cons (se_varF 4 rfl (.inr (.inl rfl))) sa_nil)))))))
  (sss_cons (ss_if (st_w (stw_or (st_not (st_val (e_bi bi_isi fr_isinstance (sa_cons (se_varF 5 rfl (.inl rfl)) (sa_cons (e_ty fr_list) sa_nil))))) (stw_or1 (st_not (st_val (e_bi bi_all fr_all (sa_cons (se_frz (sw_keep 1 (sw_lc (own := [("one", 1)]) (si_any (se_varF 5 rfl (.inl rfl))) (blkOk_by (by rfl)) (sg_name (i := 1) rfl (.inl rfl) (Is.hlL rfl)) (by decide) sts_nil (se_frz (sw_call c_are_factors.c (Nat.le_of_ble_eq_true rfl) rfl (sa_cons (se_varF 1 rfl (.inl rfl)) (sa_cons (se_varF 3 rfl (.inr (.inl rfl))) (sa_cons (se_varF 4 rfl (.inr (.inl rfl))) sa_nil)))))))) sa_nil))))))) (sss_one (ss_ret (sw_va se_bl))) sss_nil)
  (sss_cons (ss_setC (i := 6) rfl rfl (sw_dc (own := [("factors", 7)]) (si_any (se_varF 5 rfl (.inl rfl))) (blkOk_by (by rfl)) (sg_name (i := 7) rfl (.inl rfl) (Is.hlL rfl)) (by decide) sts_nil (se_varF 7 rfl (.inl rfl)) se_bl) (Is.hl rfl))
  (sss_cons (ss_if (st_w (stw_or (t_co co_lt (e_bi bi_len fr_len (sa_cons (se_varF 6 rfl (.inr (.inl rfl))) sa_nil)) (e_bi bi_len fr_len (sa_cons (se_varF 5 rfl (.inl rfl)) sa_nil))) (stw_or (st_dnotin (se_fld cls_Layout noat_factors (se_varF 1 rfl (.inl rfl))) (se_varF 6 rfl (.inr (.inl rfl)))) (stw_or1 (st_din (se_fld cls_Layout noat_factors (se_varF 2 rfl (.inl rfl))) (se_varF 6 rfl (.inr (.inl rfl)))))))) (sss_one (ss_ret (sw_va se_bl))) sss_nil)
  (sss_one (ss_ret (sw_va (e_bi bi_all fr_all (sa_cons (se_frz (sw_lc2 (own := [("factors", 7), ("behind", 8)]) [8] (si_any (se_varF 5 rfl (.inl rfl))) (blkOk_by (by rfl)) (by decide) (sg_name (i := 7) rfl (.inl rfl) (Is.hlL rfl)) (by decide) sts_nil (si_any (se_frz (sw_call c_neighbours.c (Nat.le_of_ble_eq_true rfl) rfl (sa_cons (se_varF 0 rfl (.inr (.inl rfl))) (sa_cons (se_varF 7 rfl (.inl rfl)) (sa_cons (se_varF 3 rfl (.inr (.inl rfl))) (sa_cons (se_varF 4 rfl (.inr (.inl rfl))) sa_nil))))))) (sg_name (i := 8) rfl (.inl rfl) (Is.hlL rfl)) (by decide) sts_nil (se_din (se_varF 8 rfl (.inl rfl)) (se_varF 6 rfl (.inr (.inl rfl)))))) sa_nil)))))))))
theorem sc_shows_apart : FnScope N_shows_apart ["kind", "one", "other", "places", "degree", "thing"] (defScope s_shows_apart) := ⟨rfl, rfl, rfl, by decide +kernel, rfl, by decide +kernel, by decide +kernel⟩

end
end FL
set_option Elab.async false
set_option linter.all false
set_option maxRecDepth 100000
set_option maxHeartbeats 4000000
namespace FL
open PySem PySem.Spec PyProof.Rows L2
section
variable {P : Program} {w : World} {K : PySem.W.Frag} {mg : Str → Option Value} {base : Heap}
/-! _law_mixed -/
abbrev s__law_mixed : Stmt := top 57
def N__law_mixed : List Str := ["number", "lap", "prime", "found", "again"]
def f__law_mixed : FS := (fSeq (fSet 2 (fVa (fC (.int 2305843009213693951))))
  (fSeq (fSet 3 (fVa (fOp oMod (fOp oAdd (fOp oAdd (fOp oMul (fVarF 0) (fC (.int 1181783497276652981))) (fOp oMul (fVarF 1) (fC (.int 2685821657736338717)))) (fC (.int 41))) (fVarF 2))))
  (fSeq (fFor (fIt oRange1 (aCons (fC (.int 4)) aNil)) (tName 4) (fSet 3 (fVa (fOp oMod (fOp oAdd (fOp oAdd (fOp oAdd (fOp oMul (fVarF 3) (fVarF 3)) (fOp oMul (fC (.int 29)) (fVarF 3))) (fOp oMul (fC (.int 4001)) (fVarF 4))) (fVarF 1)) (fVarF 2)))))
  (fRet (fVa (fOp oAdd (fOp oMul (fVarF 3) (fVarF 2)) (fOp oMod (fOp oAdd (fOp oMul (fVarF 3) (fC (.int 48271))) (fVarF 1)) (fVarF 2))))))))
def F__law_mixed := runP 2 5 f__law_mixed
theorem d__law_mixed (fr_range : mg "range" = none) (E : XK) : SSs (gmOf P w K mg base N__law_mixed (defScope s__law_mixed) 0 E) (defBody s__law_mixed) f__law_mixed := (sss_cons (ss_set (i := 2) rfl (.inl rfl) (sw_va se_int) (Is.hl rfl))
  (sss_cons (ss_set (i := 3) rfl (.inl rfl) (sw_va (e_bo bo_mod (e_bo bo_add (e_bo bo_add (e_bo bo_mul (se_varF 0 rfl (.inl rfl)) se_int) (e_bo bo_mul (se_varF 1 rfl (.inl rfl)) se_int)) se_int) (se_varF 2 rfl (.inl rfl)))) (Is.hl rfl))
  (sss_cons (ss_for rfl (si_range1 rfl fr_range (sa_cons se_int sa_nil)) (sg_name (i := 4) rfl (.inl rfl) (Is.hl rfl)) (sss_one (ss_set (i := 3) rfl (.inl rfl) (sw_va (e_bo bo_mod (e_bo bo_add (e_bo bo_add (e_bo bo_add (e_bo bo_mul (se_varF 3 rfl (.inl rfl)) (se_varF 3 rfl (.inl rfl))) (e_bo bo_mul se_int (se_varF 3 rfl (.inl rfl)))) (e_bo bo_mul se_int (se_varF 4 rfl (.inl rfl)))) (se_varF 1 rfl (.inl rfl))) (se_varF 2 rfl (.inl rfl)))) (Is.hl rfl))))
  (sss_one (ss_ret (sw_va (e_bo bo_add (e_bo bo_mul (se_varF 3 rfl (.inl rfl)) (se_varF 2 rfl (.inl rfl))) (e_bo bo_mod (e_bo bo_add (e_bo bo_mul (se_varF 3 rfl (.inl rfl)) se_int) (se_varF 1 rfl (.inl rfl))) (se_varF 2 rfl (.inl rfl))))))))))
theorem sc__law_mixed : FnScope N__law_mixed ["number", "lap"] (defScope s__law_mixed) := ⟨rfl, rfl, rfl, by decide +kernel, rfl, by decide +kernel, by decide +kernel⟩

/-! _law_deck_of -/
abbrev s__law_deck_of : Stmt := top 58
def N__law_deck_of : List Str := ["script", "cells", "place", "cell"]
def f__law_deck_of : FS := (fSeq (fSet 1 (fLc (fItems (fFrz (fSlL (fVarF 0) oNo (oPart (fC (.int 16)))))) (tName 3) (F.ret true) (fCall oAbs (aCons (fVarF 3) aNil)) [3]))
  (fSeq (fFor (fIt oEnum (aCons (fFrz (fSlL (fVarF 0) (oPart (fC (.int 16))) (oPart (fC (.int 63))))) aNil)) (tTuple 2 (tsCons (tName 2) (tsCons (tName 3) tsNil))) (fPut 1 oSetL (fOp oAdd (fIxO 1 (fOp oMod (fVarF 2) (fC (.int 16)))) (fCall oAbs (aCons (fVarF 3) aNil))) (fOp oMod (fVarF 2) (fC (.int 16)))))
  (fRet (fLst (aCons (fVarF 1) (aCons (fC (.int 0)) (aCons (fC (.int 0)) (aCons (fC (.int 0)) aNil))))))))
def F__law_deck_of := runP 1 4 f__law_deck_of
theorem d__law_deck_of (fr_abs : mg "abs" = none) (fr_enumerate : mg "enumerate" = none) (E : XK) : SSs (gmOf P w K mg base N__law_deck_of (defScope s__law_deck_of) 0 E) (defBody s__law_deck_of) f__law_deck_of := (sss_cons (ss_setLc (i := 1) rfl rfl (by rintro ⟨⟩ h; cases h; rfl) (own := [("cell", 3)]) (si_any (se_frz (sw_slL (se_varF 0 rfl (.inl rfl)) so_no (so_part se_int)))) (blkOk_by (by rfl)) (sg_name (i := 3) rfl (.inl rfl) (Is.hlL rfl)) (by decide) sts_nil (e_bi bi_abs fr_abs (sa_cons (se_varF 3 rfl (.inl rfl)) sa_nil)))
  (sss_cons (ss_for rfl (si_enum rfl fr_enumerate (sa_cons (se_frz (sw_slL (se_varF 0 rfl (.inl rfl)) (so_part se_int) (so_part se_int))) sa_nil)) (sg_tup (sgs_cons (sg_name (i := 2) rfl (.inl rfl) (Is.hl rfl)) (sgs_cons (sg_name (i := 3) rfl (.inl rfl) (Is.hl rfl)) sgs_nil))) (sss_one (ss_put (i := 1) put_list (fun _ _ => set_list) rfl (.inl rfl) (e_bo bo_add (se_ixO (i := 1) rfl (.inl rfl) (e_bo bo_mod (se_varF 2 rfl (.inl rfl)) se_int) (fun _ _ => rfl)) (e_bi bi_abs fr_abs (sa_cons (se_varF 3 rfl (.inl rfl)) sa_nil))) (e_bo bo_mod (se_varF 2 rfl (.inl rfl)) se_int))))
  (sss_one (ss_ret (sw_lst (sa_cons (se_varF 1 rfl (.inl rfl)) (sa_cons se_int (sa_cons se_int (sa_cons se_int sa_nil)))))))))
theorem sc__law_deck_of : FnScope N__law_deck_of ["script"] (defScope s__law_deck_of) := ⟨rfl, rfl, rfl, by decide +kernel, rfl, by decide +kernel, by decide +kernel⟩

/-! _law_below -/
abbrev s__law_below : Stmt := top 59
def N__law_below : List Str := ["deck", "bound", "found", "amount", "cells", "place"]
def f__law_below : FS := (fSeq (fIfS (fT (fOp oLt (fIxO 0 (fC (.int 3))) (fVarF 1))) (fSeq (fPar 4 5 (fVa (fIxO 0 (fC (.int 0)))) (fVa (fIxO 0 (fC (.int 1)))))
  (fSeq (fSet 3 (fIf (fT (fOp oNe (fVarF 4) (fFrz (fLst aNil)))) (fVa (fOp oIx (fVarF 4) (fOp oMod (fVarF 5) (fCall oLen (aCons (fVarF 4) aNil))))) (fVa (fC (.int 0)))))
  (fSeq (fIfS (gOr (fT (fOp oGe (fVarF 5) (fCall oLen (aCons (fVarF 4) aNil)))) (fT (fOp oLt (fVarF 3) (fOp oPow (fC (.int 10)) (fC (.int 16)))))) (fSet 3 (fCallP F__law_mixed (aCons (fOp oMod (fCall oIntC (aCons (fVarF 3) aNil)) (fC (.int 998244353))) (aCons (fVarF 5) aNil)))) fNx)
  (fSeq (fPut 0 oSetL (fOp oAdd (fVarF 5) (fC (.int 1))) (fC (.int 1)))
  (fSeq (fPut 0 oSetL (fVarF 3) (fC (.int 2)))
  (fPut 0 oSetL (fVarF 3) (fC (.int 3)))))))) fNx)
  (fSeq (fSet 2 (fVa (fOp oMod (fCall oIntC (aCons (fIxO 0 (fC (.int 2))) aNil)) (fVarF 1))))
  (fSeq (fPut 0 oSetL (fOp oDiv (fIxO 0 (fC (.int 2))) (fVarF 1)) (fC (.int 2)))
  (fSeq (fPut 0 oSetL (fOp oDiv (fIxO 0 (fC (.int 3))) (fVarF 1)) (fC (.int 3)))
  (fRet (fMov 2))))))
def F__law_below := runI 2 6 f__law_below
theorem d__law_below (fr_len : mg "len" = none) (c__law_mixed : CalK P w K mg base 1 "_law_mixed" 2 (spP K F__law_mixed)) (fr_int : mg "int" = none) (E : XK) : SSs (gmOf P w K mg base N__law_below (defScope s__law_below) 1 E) (defBody s__law_below) f__law_below := (sss_cons (ss_if (t_co co_lt (se_ixO (i := 0) rfl (.inl rfl) se_int (fun _ _ => rfl)) (se_varF 1 rfl (.inl rfl))) (sss_cons (ss_par (i := 4) (j := 5) rfl rfl (by decide) rfl rfl (sw_va (se_ixO (i := 0) rfl (.inl rfl) se_int (fun _ _ => rfl))) (sw_va (se_ixO (i := 0) rfl (.inl rfl) se_int (fun _ _ => rfl))) (by rintro ⟨⟩ h; cases h; rfl))
  (sss_cons (ss_set (i := 3) rfl (.inl rfl) (sw_if (t_co co_ne (se_varF 4 rfl (.inl rfl)) (se_frz (sw_lst sa_nil))) (sw_va (e_ix (se_varF 4 rfl (.inl rfl)) (e_bo bo_mod (se_varF 5 rfl (.inl rfl)) (e_bi bi_len fr_len (sa_cons (se_varF 4 rfl (.inl rfl)) sa_nil))))) (sw_va se_int)) (Is.hl rfl))
  (sss_cons (ss_if (st_w (stw_or (t_co co_ge (se_varF 5 rfl (.inl rfl)) (e_bi bi_len fr_len (sa_cons (se_varF 4 rfl (.inl rfl)) sa_nil))) (stw_or1 (t_co co_lt (se_varF 3 rfl (.inl rfl)) (e_bo bo_pow se_int se_int))))) (sss_one (ss_set (i := 3) rfl (.inl rfl) (sw_call c__law_mixed.c (Nat.le_of_ble_eq_true rfl) rfl (sa_cons (e_bo bo_mod (e_bt bt_int fr_int (sa_cons (se_varF 3 rfl (.inl rfl)) sa_nil)) se_int) (sa_cons (se_varF 5 rfl (.inl rfl)) sa_nil))) (Is.hl rfl))) sss_nil)
  (sss_cons (ss_put (i := 0) put_list (fun _ _ => set_list) rfl (.inl rfl) (e_bo bo_add (se_varF 5 rfl (.inl rfl)) se_int) se_int)
  (sss_cons (ss_put (i := 0) put_list (fun _ _ => set_list) rfl (.inl rfl) (se_varF 3 rfl (.inl rfl)) se_int)
  (sss_one (ss_put (i := 0) put_list (fun _ _ => set_list) rfl (.inl rfl) (se_varF 3 rfl (.inl rfl)) se_int))))))) sss_nil)
  (sss_cons (ss_set (i := 2) rfl (.inl rfl) (sw_va (e_bo bo_mod (e_bt bt_int fr_int (sa_cons (se_ixO (i := 0) rfl (.inl rfl) se_int (fun _ _ => rfl)) sa_nil)) (se_varF 1 rfl (.inl rfl)))) (Is.hl rfl))
  (sss_cons (ss_put (i := 0) put_list (fun _ _ => set_list) rfl (.inl rfl) (e_bo bo_div (se_ixO (i := 0) rfl (.inl rfl) se_int (fun _ _ => rfl)) (se_varF 1 rfl (.inl rfl))) se_int)
  (sss_cons (ss_put (i := 0) put_list (fun _ _ => set_list) rfl (.inl rfl) (e_bo bo_div (se_ixO (i := 0) rfl (.inl rfl) se_int (fun _ _ => rfl)) (se_varF 1 rfl (.inl rfl))) se_int)
  (sss_one (ss_ret (sw_mov 2 rfl (.inl rfl))))))))
theorem sc__law_below : FnScope N__law_below ["deck", "bound"] (defScope s__law_below) := ⟨rfl, rfl, rfl, by decide +kernel, rfl, by decide +kernel, by decide +kernel⟩

/-! _law_pick -/
abbrev s__law_pick : Stmt := top 60
def N__law_pick : List Str := ["deck", "some"]
def f__law_pick : FS := (fRet (fVa (fOp oIx (fVarF 1) (fFrz (fCallI 0 F__law_below (aCons (fCall oLen (aCons (fVarF 1) aNil)) aNil))))))
def F__law_pick := runI 2 2 f__law_pick
theorem d__law_pick (c__law_below : CalK P w K mg base 2 "_law_below" 2 (spI K F__law_below)) (fr_len : mg "len" = none) (E : XK) : SSs (gmOf P w K mg base N__law_pick (defScope s__law_pick) 2 E) (defBody s__law_pick) f__law_pick := (sss_one (ss_ret (sw_va (e_ix (se_varF 1 rfl (.inl rfl)) (se_frz (sw_callI (i := 0) c__law_below.c (Nat.le_of_ble_eq_true rfl) rfl rfl (.inl rfl) (sa_cons (e_bi bi_len fr_len (sa_cons (se_varF 1 rfl (.inl rfl)) sa_nil)) sa_nil)))))))
theorem sc__law_pick : FnScope N__law_pick ["deck", "some"] (defScope s__law_pick) := ⟨rfl, rfl, rfl, by decide +kernel, rfl, by decide +kernel, by decide +kernel⟩

/-! _law_some_kind -/
abbrev s__law_some_kind : Stmt := top 61
def N__law_some_kind : List Str := ["deck", "most", "parts", "turn", "tags", "found", "tag"]
def f__law_some_kind : FS := (fSeq (fSet 2 (fLst (aCons (fC (.int 0)) (aCons (fFrz (fCallI 0 F__law_pick (aCons (fFrz (fLst (aCons (fC (.int 2)) (aCons (fC (.int 2)) (aCons (fC (.int 2)) (aCons (fC (.int 3)) (aCons (fC (.int 4)) aNil))))))) aNil))) aNil))))
  (fSeq (fFor (fIt oRange1 (aCons (fFrz (fCallI 0 F__law_below (aCons (fOp oSub (fVarF 1) (fC (.int 1))) aNil))) aNil)) (tName 3) (fDrop (fOwn 2 isLs oAppend (aCons (fFrz (fCallI 0 F__law_pick (aCons (fFrz (fLst (aCons (fC (.int 0)) (aCons (fC (.int 0)) (aCons (fC (.int 1)) (aCons (fC (.int 1)) (aCons (fC (.int 2)) (aCons (fC (.int 3)) (aCons (fC (.int 4)) aNil))))))))) aNil))) aNil))))
  (fSeq (fPar 4 5 (fLst (aCons (fC (.str "leaf")) (aCons (fC (.str "join")) (aCons (fC (.str "a")) (aCons (fC (.str "z9")) (aCons (fC (.str "node")) (aCons (fC (.str "b2b")) (aCons (fC (.str "tip")) (aCons (fC (.str "eightabc")) aNil))))))))) (fLst aNil))
  (fSeq (whileF (gPeek (fT (fOp oNe (fVarF 2) (fFrz (fLst aNil))))) (fSeq (fSet 6 (fOwn 4 isLs oPopAt (aCons (fFrz (fCallI 0 F__law_below (aCons (fPeek (fCall oLen (aCons (fVarF 4) aNil))) aNil))) aNil)))
  (fDrop (fOwn 5 isLs oAppend (aCons (fTup (aCons (fVarF 6) (aCons (fFrz (fOwn 2 isLs oPopAt (aCons (fFrz (fCallI 0 F__law_below (aCons (fPeek (fCall oLen (aCons (fVarF 2) aNil))) aNil))) aNil))) aNil))) aNil)))))
  (fRet (fVa (fCall oTuple (aCons (fVarF 5) aNil))))))))
def F__law_some_kind := runI 2 7 f__law_some_kind
theorem d__law_some_kind (c__law_pick : CalK P w K mg base 3 "_law_pick" 2 (spI K F__law_pick)) (fr_range : mg "range" = none) (c__law_below : CalK P w K mg base 2 "_law_below" 2 (spI K F__law_below)) (fr_len : mg "len" = none) (fr_tuple : mg "tuple" = none) (E : XK) : SSs (gmOf P w K mg base N__law_some_kind (defScope s__law_some_kind) 3 E) (defBody s__law_some_kind) f__law_some_kind := (sss_cons (ss_set (i := 2) rfl (.inl rfl) (sw_lst (sa_cons se_int (sa_cons (se_frz (sw_callI (i := 0) c__law_pick.c (Nat.le_of_ble_eq_true rfl) rfl rfl (.inl rfl) (sa_cons (se_frz (sw_lst (sa_cons se_int (sa_cons se_int (sa_cons se_int (sa_cons se_int (sa_cons se_int sa_nil))))))) sa_nil))) sa_nil))) (Is.hl rfl))
  (sss_cons (ss_for rfl (si_range1 rfl fr_range (sa_cons (se_frz (sw_callI (i := 0) c__law_below.c (Nat.le_of_ble_eq_true rfl) rfl rfl (.inl rfl) (sa_cons (e_bo bo_sub (se_varF 1 rfl (.inl rfl)) se_int) sa_nil))) sa_nil)) (sg_name (i := 3) rfl (.inl rfl) (Is.hl rfl)) (sss_one (ss_expr (w_append (i := 2) rfl (.inl rfl) (sa_cons (se_frz (sw_callI (i := 0) c__law_pick.c (Nat.le_of_ble_eq_true rfl) rfl rfl (.inl rfl) (sa_cons (se_frz (sw_lst (sa_cons se_int (sa_cons se_int (sa_cons se_int (sa_cons se_int (sa_cons se_int (sa_cons se_int (sa_cons se_int sa_nil))))))))) sa_nil))) sa_nil)))))
  (sss_cons (ss_par (i := 4) (j := 5) rfl rfl (by decide) rfl rfl (sw_lst (sa_cons se_str (sa_cons se_str (sa_cons se_str (sa_cons se_str (sa_cons se_str (sa_cons se_str (sa_cons se_str (sa_cons se_str sa_nil))))))))) (sw_lst sa_nil) (by rintro ⟨⟩ h; cases h; rfl))
  (sss_cons (ss_while rfl (st_peek (t_co co_ne (se_varF 2 rfl (.inl rfl)) (se_frz (sw_lst sa_nil)))) (sss_cons (ss_set (i := 6) rfl (.inl rfl) (w_popAt (i := 4) rfl (.inl rfl) (sa_cons (se_frz (sw_callI (i := 0) c__law_below.c (Nat.le_of_ble_eq_true rfl) rfl rfl (.inl rfl) (sa_cons (se_peek (e_bi bi_len fr_len (sa_cons (se_varF 4 rfl (.inl rfl)) sa_nil))) sa_nil))) sa_nil)) (Is.hl rfl))
  (sss_one (ss_expr (w_append (i := 5) rfl (.inl rfl) (sa_cons (se_tup (sa_cons (se_varF 6 rfl (.inl rfl)) (sa_cons (se_frz (w_popAt (i := 2) rfl (.inl rfl) (sa_cons (se_frz (sw_callI (i := 0) c__law_below.c (Nat.le_of_ble_eq_true rfl) rfl rfl (.inl rfl) (sa_cons (se_peek (e_bi bi_len fr_len (sa_cons (se_varF 2 rfl (.inl rfl)) sa_nil))) sa_nil))) sa_nil))) sa_nil))) sa_nil))))))
  (sss_one (ss_ret (sw_va (e_bt bt_tuple fr_tuple (sa_cons (se_varF 5 rfl (.inl rfl)) sa_nil)))))))))
theorem sc__law_some_kind : FnScope N__law_some_kind ["deck", "most"] (defScope s__law_some_kind) := ⟨rfl, rfl, rfl, by decide +kernel, rfl, by decide +kernel, by decide +kernel⟩

/-! _law_is_bound -/
abbrev s__law_is_bound : Stmt := top 64
def N__law_is_bound : List Str := ["thing", "most"]
def f__law_is_bound : FS := (fRet (fVa (fAnd (fCall oIsi (aCons (fVarF 0) (aCons (fC (.ty "int")) aNil))) (fAnd (fNot (fCall oIsi (aCons (fVarF 0) (aCons (fC (.ty "bool")) aNil)))) (fChain oLe oLe (fC (.int 0)) (fVarF 0) (fVarF 1))))))
def F__law_is_bound := runP 2 2 f__law_is_bound
theorem d__law_is_bound (fr_isinstance : mg "isinstance" = none) (fr_int : mg "int" = none) (fr_bool : mg "bool" = none) (E : XK) : SSs (gmOf P w K mg base N__law_is_bound (defScope s__law_is_bound) 0 E) (defBody s__law_is_bound) f__law_is_bound := (sss_one (ss_ret (sw_va (se_and (e_bi bi_isi fr_isinstance (sa_cons (se_varF 0 rfl (.inl rfl)) (sa_cons (e_ty fr_int) sa_nil))) (se_and (se_not (e_bi bi_isi fr_isinstance (sa_cons (se_varF 0 rfl (.inl rfl)) (sa_cons (e_ty fr_bool) sa_nil)))) (se_one (e_ch co_le co_le se_int (se_varF 0 rfl (.inl rfl)) (se_varF 1 rfl (.inl rfl)))))))))
theorem sc__law_is_bound : FnScope N__law_is_bound ["thing", "most"] (defScope s__law_is_bound) := ⟨rfl, rfl, rfl, by decide +kernel, rfl, by decide +kernel, by decide +kernel⟩

end
end FL
set_option Elab.async false
set_option linter.all false
set_option maxRecDepth 100000
set_option maxHeartbeats 4000000
namespace FL
open PySem PySem.Spec PyProof.Rows L2
section
variable {P : Program} {w : World} {K : PySem.W.Frag} {mg : Str → Option Value} {base : Heap}
abbrev s__law_word_of : Stmt := top 62
def N__law_word_of : List Str := ["act", "caught", "error", "some"]
def f_w0 : FS := (fSet 1 (fVa (fC .non)))
def f_w2 : FS := (fSeq (fIfS (fT (fOp oIsN (fVarF 1) (fC .non))) (fRet (fVa (fC (.str "told")))) fNx)
  (fSeq (fSet 3 (fLst (aCons (fCall (oIsK ["NoKind", "NoNumber", "Mismatch"]) (aCons (fVarF 1) (aCons (fC (.cls "NoKind")) aNil))) (aCons (fCall (oIsK ["NoKind", "NoNumber", "Mismatch"]) (aCons (fVarF 1) (aCons (fC (.cls "NoNumber")) aNil))) (aCons (fCall (oIsK ["NoKind", "NoNumber", "Mismatch"]) (aCons (fVarF 1) (aCons (fC (.cls "Mismatch")) aNil))) aNil)))))
  (fSeq (fIfS (gOr (fT (fOp oNe (fMth isL oCount (fVarF 3) (aCons (fC (.bl true)) aNil)) (fC (.int 1)))) (gNot (fT (fCall (oIsK ["NoKind", "NoNumber", "Mismatch"]) (aCons (fVarF 1) (aCons (fC (.ty "ValueError")) aNil)))))) (fRet (fVa (fC (.str "odd")))) fNx)
  (fRet (fVa (fOp oIx (fFrz (fLst (aCons (fC (.str "kind")) (aCons (fC (.str "number")) (aCons (fC (.str "fit")) aNil))))) (fMth isL oIndex (fVarF 3) (aCons (fC (.bl true)) aNil))))))))
def jLam : Nat := 9
def st_w0 : Stmt := (defBody s__law_word_of).getD 0 (.Pass ⟨0, 0, 0, 0⟩)
def st_w2 : List Stmt := (defBody s__law_word_of).drop 2
theorem d_w0 : SS (gmOf P w K mg base N__law_word_of (defScope s__law_word_of) (jLam + 1) fun _ _ _ => False) st_w0 f_w0 := (ss_set (i := 1) rfl (.inl rfl) (sw_va se_non) (Is.hl rfl))
theorem d_w2 (fr_isinstance : mg "isinstance" = none) (g_NoKind : mg "NoKind" = some (.ref (He.ga K "NoKind"))) (x_isk : IsKF K ["NoKind", "NoNumber", "Mismatch"]) (g_NoNumber : mg "NoNumber" = some (.ref (He.ga K "NoNumber"))) (g_Mismatch : mg "Mismatch" = some (.ref (He.ga K "Mismatch"))) (fr_ValueError : mg "ValueError" = none) : SSs (gmOf P w K mg base N__law_word_of (defScope s__law_word_of) (jLam + 1) fun _ _ _ => False) st_w2 f_w2 := (sss_cons (ss_if (t_co co_is (se_varF 1 rfl (.inl rfl)) se_non) (sss_one (ss_ret (sw_va se_str))) sss_nil)
  (sss_cons (ss_set (i := 3) rfl (.inl rfl) (sw_lst (sa_cons (e_bi (bi_isK x_isk) fr_isinstance (sa_cons (se_varF 1 rfl (.inl rfl)) (sa_cons (e_gcls g_NoKind) sa_nil))) (sa_cons (e_bi (bi_isK x_isk) fr_isinstance (sa_cons (se_varF 1 rfl (.inl rfl)) (sa_cons (e_gcls g_NoNumber) sa_nil))) (sa_cons (e_bi (bi_isK x_isk) fr_isinstance (sa_cons (se_varF 1 rfl (.inl rfl)) (sa_cons (e_gcls g_Mismatch) sa_nil))) sa_nil)))) (Is.hl rfl))
  (sss_cons (ss_if (st_w (stw_or (t_co co_ne (e_count (se_varF 3 rfl (.inl rfl)) (sa_cons se_bl sa_nil)) se_int) (stw_or1 (st_not (st_val (e_bi (bi_isK x_isk) fr_isinstance (sa_cons (se_varF 1 rfl (.inl rfl)) (sa_cons (e_ty fr_ValueError) sa_nil)))))))) (sss_one (ss_ret (sw_va se_str))) sss_nil)
  (sss_one (ss_ret (sw_va (e_ix (se_frz (sw_lst (sa_cons se_str (sa_cons se_str (sa_cons se_str sa_nil))))) (e_index (se_varF 3 rfl (.inl rfl)) (sa_cons se_bl sa_nil)))))))))
theorem sc__law_word_of : FnScope N__law_word_of ["act"] (defScope s__law_word_of) := ⟨rfl, rfl, rfl, by decide +kernel, rfl, by decide +kernel, by decide +kernel⟩
abbrev s__law_words : Stmt := top 63
def N__law_words : List Str := ["kind", "one", "other", "records", "degree", "acts", "act"]
theorem sc__law_words : FnScope N__law_words ["kind", "one", "other", "records", "degree"] (defScope s__law_words) := ⟨rfl, rfl, rfl, by decide +kernel, rfl, by decide +kernel, by decide +kernel⟩
def lamAt (i : Nat) : Arguments × Expr × Scope := match (defBody s__law_words).getD i (.Pass ⟨0, 0, 0, 0⟩) with
  | .Assign _ (.List [.Lambda a b c _] _) _ => (a, b, c)
  | .Expr (.Call _ [.Lambda a b c _] _ _) _ => (a, b, c)
  | _ => (defArgs s__law_words, .Constant .none 0 ⟨0, 0, 0, 0⟩, defScope s__law_words)
def f_lam0 : F D := (fFrz (fCallP F_distance (aCons (fVarF 0) (aCons (fVarF 1) (aCons (fVarF 2) (aCons (fVarF 3) (aCons (fVarF 4) aNil)))))))
theorem d_lam0 (c_distance : CalK P w K mg base 8 "distance" 5 (spP K F_distance)) (k : Nat) (E E2 : XK) : SE ((gmOf P w K mg base N__law_words (defScope s__law_words) k E).lam (lamAt 0).2.2 jLam E2) (lamAt 0).2.1 f_lam0 := (se_frz (sw_call c_distance.c (Nat.le_of_ble_eq_true rfl) rfl (sa_cons (se_varF 0 rfl (.inr (.inr rfl))) (sa_cons (se_varF 1 rfl (.inr (.inr rfl))) (sa_cons (se_varF 2 rfl (.inr (.inr rfl))) (sa_cons (se_varF 3 rfl (.inr (.inr rfl))) (sa_cons (se_varF 4 rfl (.inr (.inr rfl))) sa_nil)))))))
def lam0 : LamI := ⟨(lamAt 0).1, (lamAt 0).2.1, (lamAt 0).2.2, f_lam0⟩
def f_lam1 : F D := (fFrz (fCallP F_shortest (aCons (fVarF 0) (aCons (fVarF 1) (aCons (fVarF 2) (aCons (fVarF 3) (aCons (fVarF 4) aNil)))))))
theorem d_lam1 (c_shortest : CalK P w K mg base 7 "shortest" 5 (spP K F_shortest)) (k : Nat) (E E2 : XK) : SE ((gmOf P w K mg base N__law_words (defScope s__law_words) k E).lam (lamAt 1).2.2 jLam E2) (lamAt 1).2.1 f_lam1 := (se_frz (sw_call c_shortest.c (Nat.le_of_ble_eq_true rfl) rfl (sa_cons (se_varF 0 rfl (.inr (.inr rfl))) (sa_cons (se_varF 1 rfl (.inr (.inr rfl))) (sa_cons (se_varF 2 rfl (.inr (.inr rfl))) (sa_cons (se_varF 3 rfl (.inr (.inr rfl))) (sa_cons (se_varF 4 rfl (.inr (.inr rfl))) sa_nil)))))))
def lam1 : LamI := ⟨(lamAt 1).1, (lamAt 1).2.1, (lamAt 1).2.2, f_lam1⟩
def f_lam2 : F D := (fFrz (fCallP F_price_paper (aCons (fVarF 0) (aCons (fVarF 1) (aCons (fVarF 2) (aCons (fVarF 3) (aCons (fVarF 4) aNil)))))))
theorem d_lam2 (c_price_paper : CalK P w K mg base 9 "price_paper" 5 (spP K F_price_paper)) (k : Nat) (E E2 : XK) : SE ((gmOf P w K mg base N__law_words (defScope s__law_words) k E).lam (lamAt 2).2.2 jLam E2) (lamAt 2).2.1 f_lam2 := (se_frz (sw_call c_price_paper.c (Nat.le_of_ble_eq_true rfl) rfl (sa_cons (se_varF 0 rfl (.inr (.inr rfl))) (sa_cons (se_varF 1 rfl (.inr (.inr rfl))) (sa_cons (se_varF 2 rfl (.inr (.inr rfl))) (sa_cons (se_varF 3 rfl (.inr (.inr rfl))) (sa_cons (se_varF 4 rfl (.inr (.inr rfl))) sa_nil)))))))
def lam2 : LamI := ⟨(lamAt 2).1, (lamAt 2).2.1, (lamAt 2).2.2, f_lam2⟩
def f_lam3 : F D := (fFrz (fCallP F_closed_paper (aCons (fVarF 0) (aCons (fVarF 1) (aCons (fVarF 2) (aCons (fVarF 3) (aCons (fVarF 4) aNil)))))))
theorem d_lam3 (c_closed_paper : CalK P w K mg base 7 "closed_paper" 5 (spP K F_closed_paper)) (k : Nat) (E E2 : XK) : SE ((gmOf P w K mg base N__law_words (defScope s__law_words) k E).lam (lamAt 3).2.2 jLam E2) (lamAt 3).2.1 f_lam3 := (se_frz (sw_call c_closed_paper.c (Nat.le_of_ble_eq_true rfl) rfl (sa_cons (se_varF 0 rfl (.inr (.inr rfl))) (sa_cons (se_varF 1 rfl (.inr (.inr rfl))) (sa_cons (se_varF 2 rfl (.inr (.inr rfl))) (sa_cons (se_varF 3 rfl (.inr (.inr rfl))) (sa_cons (se_varF 4 rfl (.inr (.inr rfl))) sa_nil)))))))
def lam3 : LamI := ⟨(lamAt 3).1, (lamAt 3).2.1, (lamAt 3).2.2, f_lam3⟩
def f_lam4 : F D := (fFrz (fCallP F_shows_distance (aCons (fVarF 0) (aCons (fVarF 1) (aCons (fVarF 2) (aCons (fVarF 3) (aCons (fVarF 4) (aCons (fC (.int 1)) (aCons (fFrz (fNew (.dt []))) aNil)))))))))
theorem d_lam4 (c_shows_distance : CalK P w K mg base 6 "shows_distance" 7 (spP K F_shows_distance)) (k : Nat) (E E2 : XK) : SE ((gmOf P w K mg base N__law_words (defScope s__law_words) k E).lam (lamAt 4).2.2 jLam E2) (lamAt 4).2.1 f_lam4 := (se_frz (sw_call c_shows_distance.c (Nat.le_of_ble_eq_true rfl) rfl (sa_cons (se_varF 0 rfl (.inr (.inr rfl))) (sa_cons (se_varF 1 rfl (.inr (.inr rfl))) (sa_cons (se_varF 2 rfl (.inr (.inr rfl))) (sa_cons (se_varF 3 rfl (.inr (.inr rfl))) (sa_cons (se_varF 4 rfl (.inr (.inr rfl))) (sa_cons se_int (sa_cons (se_frz sw_newT) sa_nil)))))))))
def lam4 : LamI := ⟨(lamAt 4).1, (lamAt 4).2.1, (lamAt 4).2.2, f_lam4⟩
def f_lam5 : F D := (fFrz (fCallP F_shows_apart (aCons (fVarF 0) (aCons (fVarF 1) (aCons (fVarF 2) (aCons (fVarF 3) (aCons (fVarF 4) (aCons (fC .non) aNil))))))))
theorem d_lam5 (c_shows_apart : CalK P w K mg base 6 "shows_apart" 6 (spP K F_shows_apart)) (k : Nat) (E E2 : XK) : SE ((gmOf P w K mg base N__law_words (defScope s__law_words) k E).lam (lamAt 5).2.2 jLam E2) (lamAt 5).2.1 f_lam5 := (se_frz (sw_call c_shows_apart.c (Nat.le_of_ble_eq_true rfl) rfl (sa_cons (se_varF 0 rfl (.inr (.inr rfl))) (sa_cons (se_varF 1 rfl (.inr (.inr rfl))) (sa_cons (se_varF 2 rfl (.inr (.inr rfl))) (sa_cons (se_varF 3 rfl (.inr (.inr rfl))) (sa_cons (se_varF 4 rfl (.inr (.inr rfl))) (sa_cons se_non sa_nil))))))))
def lam5 : LamI := ⟨(lamAt 5).1, (lamAt 5).2.1, (lamAt 5).2.2, f_lam5⟩
end
end FL
set_option Elab.async false
set_option linter.all false
set_option maxRecDepth 100000
set_option maxHeartbeats 4000000
/-! B5: the law's words -/
namespace FL
open PySem PySem.Spec PyProof.Rows L2
/-- what comes of a call, as a word -/
def wordD : R D → Option Str
  | .ok _ _ => some "told"
  | .ex e _ => if e.fs.isNone then (if e.c = "NoKind" then some "kind" else if e.c = "NoNumber" then some "number" else if e.c = "Mismatch" then some "fit" else none) else none
def excs3 : List Str := ["NoKind", "NoNumber", "Mismatch"]
theorem says_word {r : R D} {s : Str} (h : wordD r = some s) : Says N__law_word_of excs3 1 f_w0 f_w2 r s := by
  intro d
  refine ⟨[.so false (.va d), .so false (.va .non), .no, .no], ?_⟩
  cases r with
  | ok a ρ =>
    cases h
    exact ⟨_, _, rfl, rfl, rfl, rfl, rfl⟩
  | ex e ρ =>
    simp only [wordD] at h
    split at h
    case isFalse => cases h
    rename_i hn
    obtain ⟨c, fs⟩ := e
    dsimp only at h hn
    obtain rfl : fs = none := by simpa using hn
    split at h
    · rename_i hc; subst hc; cases h
      refine ⟨[.no, .so false (.va (.exc "NoKind")), .no, .no], _, rfl, rfl, rfl, ?_, rfl⟩
      rfl
    · split at h
      · rename_i hc; subst hc; cases h
        refine ⟨[.no, .so false (.va (.exc "NoNumber")), .no, .no], _, rfl, rfl, rfl, ?_, rfl⟩
        rfl
      · split at h
        · rename_i hc; subst hc; cases h
          refine ⟨[.no, .so false (.va (.exc "Mismatch")), .no, .no], _, rfl, rfl, rfl, ?_, rfl⟩
          rfl
        · cases h
def lams : List LamI := [lam0, lam1, lam2, lam3, lam4, lam5]
/-- the six words -/
def F__law_words (ds : List D) : Option (List Str) := if ds.length = 5 then (lams.map LamI.fl).mapM fun fl => (fl (initP N__law_words.length ds)).bind wordD else none
theorem mapM_get {α β : Type} (f : α → Option β) : ∀ {l : List α} {r : List β}, l.mapM f = some r → r.length = l.length ∧ ∀ (j : Nat) x, l[j]? = some x → ∃ y, f x = some y ∧ r[j]? = some y
  | [], r, h => by simp at h; subst h; simp
  | a :: l, r, h => by
    rw [List.mapM_cons] at h
    cases q : f a with
    | none => rw [q] at h; cases h
    | some y =>
      cases q2 : l.mapM f with
      | none => rw [q, q2] at h; cases h
      | some ys =>
        rw [q, q2] at h
        cases h
        obtain ⟨h1, h2⟩ := mapM_get f q2
        refine ⟨by simp [h1], fun j x hx => ?_⟩
        cases j with
        | zero => simp at hx; subst hx; exact ⟨y, q, rfl⟩
        | succ j => simpa using h2 j x (by simpa using hx)
section
variable {P : Program} {w : World} {K : PySem.W.Frag} {mg : Str → Option Value} {base : Heap}
theorem ok_words (c0 : CalK P w K mg base 8 "distance" 5 (spP K F_distance)) (c1 : CalK P w K mg base 7 "shortest" 5 (spP K F_shortest)) (c2 : CalK P w K mg base 9 "price_paper" 5 (spP K F_price_paper)) (c3 : CalK P w K mg base 7 "closed_paper" 5 (spP K F_closed_paper))
    (c4 : CalK P w K mg base 6 "shows_distance" 7 (spP K F_shows_distance)) (c5 : CalK P w K mg base 6 "shows_apart" 6 (spP K F_shows_apart))
    {fW : Addr} {fdW : FuncData} (FW : FunD K "_law_word_of" "_law_word_of" (defArgs s__law_word_of) (defBody s__law_word_of) (defScope s__law_word_of) [] [] fW fdW) (mW : mg "_law_word_of" = some (.ref fW)) (bW : L2.Binds K fdW ["act"] [])
    (h2 : SSs (gmOf P w K mg base N__law_word_of (defScope s__law_word_of) (jLam + 1) fun _ _ _ => False) st_w2 f_w2) (me : mg "LayoutError" = some (.ref (He.ga K "LayoutError"))) (ex : ∀ c ∈ excs3, PySem.W.exmOne K (.ref (He.ga K c)) (.ref (He.ga K "LayoutError")) = some true)
    {f : Addr} {fd : FuncData} (F : FunD K "_law_words" "_law_words" (defArgs s__law_words) (defBody s__law_words) (defScope s__law_words) [] [] f fd) (ef : f = He.fAd K ("_law_words", none)) (tb : LamX.TabB base mg (He.cT K ("_law_words", none)).1 (He.cT K ("_law_words", none)).2) :
    FnOk P w K mg base (L2.CX P w) (jLam + 3) f fd ["kind", "one", "other", "records", "degree"] (spPT K "_law_words" qLam F__law_words) := by
  have ls : ∀ L ∈ lams, LamX.LamS (defScope s__law_words) L.scope := by
    have : lams.all (fun L => LamX.lamSB (defScope s__law_words) L.scope) = true := by decide +kernel
    exact fun L hL => LamX.lamS_by (List.all_eq_true.mp this L hL)
  have ok : ∀ E, LamsOk (gmOf P w K mg base N__law_words (defScope s__law_words) (jLam + 2) E) jLam lams := fun E => by
    refine ⟨ls, fun L hL => ?_, fun L hL E2 => ?_⟩
    · simp only [lams, List.mem_cons, List.not_mem_nil, or_false] at hL
      rcases hL with rfl | rfl | rfl | rfl | rfl | rfl <;> exact fun _ _ _ _ _ => rfl
    · simp only [lams, List.mem_cons, List.not_mem_nil, or_false] at hL
      rcases hL with rfl | rfl | rfl | rfl | rfl | rfl
      · exact d_lam0 c0 _ E E2
      · exact d_lam1 c1 _ E E2
      · exact d_lam2 c2 _ E E2
      · exact d_lam3 c3 _ E E2
      · exact d_lam4 c4 _ E E2
      · exact d_lam5 c5 _ E E2
  refine fn_words (x := "_law_words") (y := "acts") (a := "act") (xw := "_law_word_of") (sts := ((defBody s__law_words).drop 1).take 5) (NM := N__law_words) (NW := N__law_word_of) (ts := excs3) (iy := 5) (ie := 6) (mm := 1) (L0 := lam0) (Ls := [lam1, lam2, lam3, lam4, lam5]) (f0 := f_w0) (f2 := f_w2)
    F ef sc__law_words tb rfl ?_ rfl rfl rfl (by decide) (by decide) rfl (blkOk_by (by rfl)) (fun L hL => ⟨ls L hL, ?_⟩) (fun E => ?_) (fun ds ws h => ?_) (by decide)
  · refine Apps.cons (L := lam1) ?_ ?_ (Apps.cons (L := lam2) ?_ ?_ (Apps.cons (L := lam3) ?_ ?_ (Apps.cons (L := lam4) ?_ ?_ (Apps.cons (L := lam5) ?_ ?_ .nil))))
    all_goals first | rfl | exact fun _ => rfl
  · simp only [List.mem_cons, List.not_mem_nil, or_false] at hL
    rcases hL with rfl | rfl | rfl | rfl | rfl | rfl <;> exact fun _ => rfl
  · exact word_call (g := gmOf P w K mg base N__law_words (defScope s__law_words) (jLam + 2) E) (lams := lams) (st0 := st_w0) (rest := st_w2) (e := 2) (n := "error") (m := "caught") (mm := 1) (ts := excs3) (iy := 6) FW sc__law_word_of mW bW rfl d_w0 h2 (ok E) (Nat.le_refl _) rfl (.inl rfl) rfl rfl rfl rfl (by decide) rfl me ex rfl rfl (.inl rfl)
  · unfold F__law_words at h
    split at h
    case isFalse => cases h
    rename_i hl
    obtain ⟨h1, h3⟩ := mapM_get _ h
    refine ⟨hl, by rw [h1]; rfl, fun j L hL => ?_⟩
    have hL : lams[j]? = some L := hL
    obtain ⟨s, e1, e2⟩ := h3 j L.fl (by rw [List.getElem?_map, hL]; rfl)
    obtain ⟨r, e3, e4⟩ := Option.bind_eq_some_iff.mp e1
    exact ⟨r, s, e3, e2, says_word e4⟩
end
end FL
set_option Elab.async false
set_option linter.all false
set_option maxRecDepth 100000
set_option maxHeartbeats 4000000
namespace FL
open PySem PySem.Spec PyProof.Rows L2
section
variable {P : Program} {w : World} {K : PySem.W.Frag} {mg : Str → Option Value} {base : Heap}
/-! law -/
abbrev s_law : Stmt := top 65
def N_law : List Str := ["script", "deck", "good", "kinds", "layouts", "numbers", "turn", "kind", "records", "degree", "due", "one", "other", "layout", "?"]
def f_law : FS := (fSeq (fSet 1 (fCallP F__law_deck_of (aCons (fVarF 0) aNil)))
  (fSeq (fSet 2 (fCallI 1 F__law_some_kind (aCons (fFrz (fCallI 1 F__law_pick (aCons (fFrz (fLst (aCons (fC (.int 2)) (aCons (fC (.int 3)) (aCons (fC (.int 8)) aNil))))) aNil))) aNil)))
  (fSeq (fSet 3 (fLst (aCons (fC .non) (aCons (fTup aNil) (aCons (fFrz (fCallL oList (aCons (fVarF 2) aNil))) (aCons (fSlT (fVarF 2) oNo (oPart (fC (.int 1)))) (aCons (fOp oAdd (fVarF 2) (fSlT (fVarF 2) oNo (oPart (fC (.int 1))))) (aCons (fTup (aCons (fTup (aCons (fC (.str "a")) (aCons (fC (.int 0)) aNil))) (aCons (fTup (aCons (fC (.str "b")) (aCons (fC (.int 1)) aNil))) aNil))) (aCons (fC (.str "kind")) (aCons (fTup (aCons (fTup (aCons (fC (.str "a")) (aCons (fC (.int 0)) aNil))) (aCons (fTup (aCons (fC (.str "b")) (aCons (fC (.int 2)) aNil))) (aCons (fC (.int 1)) aNil)))) aNil))))))))))
  (fSeq (fSet 4 (fLst (aCons (fFrz (fMake "Layout" F_Layout (aCons (fTup aNil) aNil))) (aCons (fFrz (fMake "Layout" F_Layout (aCons (fTup (aCons (fC (.int 1)) aNil)) aNil))) (aCons (fFrz (fMake "Layout" F_Layout (aCons (fTup (aCons (fC (.int 0)) (aCons (fC (.int 1)) aNil))) aNil))) (aCons (fFrz (fMake "Layout" F_Layout (aCons (fTup (aCons (fC (.int 7)) aNil)) aNil))) (aCons (fFrz (fMake "Layout" F_Layout (aCons (fTup (aCons (fC (.int 0)) (aCons (fC (.int 0)) (aCons (fC (.int 0)) (aCons (fC (.int 2)) aNil))))) aNil))) (aCons (fFrz (fMake "Layout" F_Layout (aCons (fOp oAdd (fOp oMul (fFrz (fLst (aCons (fC (.int 0)) aNil))) (fC (.int 9))) (fFrz (fLst (aCons (fC (.int 1)) aNil)))) aNil))) aNil))))))))
  (fSeq (fSet 5 (fLst (aCons (fU oNeg (fC (.int 1))) (aCons (fC (.int 0)) (aCons (fC (.int 1)) (aCons (fC (.int 6)) (aCons (fC (.int 7)) (aCons (fC (.int 8)) (aCons (fC (.int 9)) (aCons (fC (.bl true)) (aCons (fC (.bl false)) (aCons (fC .non) (aCons (fC (.str "1")) (aCons (fTup (aCons (fC (.int 1)) aNil)) (aCons (fFrz (fLst (aCons (fC (.int 2)) aNil))) (aCons (fOp oPow (fC (.int 10)) (fC (.int 30))) aNil))))))))))))))))
  (fSeq (fFor (fIt oRange1 (aCons (fC (.int 12)) aNil)) (tName 6) (fSeq (fSet 7 (fIf (fT (fOp oEq (fFrz (fCallI 1 F__law_below (aCons (fC (.int 4)) aNil))) (fC (.int 0)))) (fCallI 1 F__law_pick (aCons (fVarF 3) aNil)) (fMov 2)))
  (fSeq (fPar 11 12 (fCallI 1 F__law_pick (aCons (fOp oAdd (fOp oMul (fFrz (fSlL (fVarF 4) oNo (oPart (fC (.int 3))))) (fC (.int 3))) (fVarF 4)) aNil)) (fCallI 1 F__law_pick (aCons (fOp oAdd (fOp oMul (fFrz (fSlL (fVarF 4) oNo (oPart (fC (.int 3))))) (fC (.int 3))) (fVarF 4)) aNil)))
  (fSeq (fSet 8 (fCallI 1 F__law_pick (aCons (fOp oAdd (fFrz (fLst (aCons (fC (.int 1)) (aCons (fC (.int 2)) (aCons (fC (.int 2)) (aCons (fC (.int 3)) (aCons (fC (.int 7)) (aCons (fC (.int 6)) (aCons (fC (.int 0)) aNil))))))))) (fFrz (fLst (aCons (fFrz (fCallI 1 F__law_pick (aCons (fVarF 5) aNil))) aNil)))) aNil)))
  (fSeq (fSet 9 (fCallI 1 F__law_pick (aCons (fOp oAdd (fFrz (fLst (aCons (fC (.int 1)) (aCons (fC (.int 2)) (aCons (fC (.int 2)) (aCons (fC (.int 3)) (aCons (fC (.int 9)) (aCons (fC (.int 0)) aNil)))))))) (fFrz (fLst (aCons (fFrz (fCallI 1 F__law_pick (aCons (fVarF 5) aNil))) aNil)))) aNil)))
  (fSeq (fSet 10 (fVa (fC (.str "told"))))
  (fSeq (fIfS (fT (fOp oNe (fVarF 7) (fVarF 2))) (fSet 10 (fVa (fC (.str "kind")))) (fIfS (gOr (gNot (fT (fFrz (fCallP F__law_is_bound (aCons (fVarF 8) (aCons (fC (.int 6)) aNil)))))) (gNot (fT (fFrz (fCallP F__law_is_bound (aCons (fVarF 9) (aCons (fC (.int 8)) aNil))))))) (fSet 10 (fVa (fC (.str "number")))) (fIfS (fT (fOp (fun x y => (oNeLen x y).or (oNe x y)) (fFrz (fLc (fItems (fTup (aCons (fVarF 11) (aCons (fVarF 12) aNil)))) (tName 13) (gOr (fT (fOp oGt (fFrz (fProp "Layout" F_total (fVarF 13))) (fVarF 8))) (fT (fOp oGt (fFld "Layout" "degree" (fVarF 13)) (fVarF 9)))) (fVarF 13) [13])) (fFrz (fLst aNil)))) (fSet 10 (fVa (fC (.str "fit")))) fNx)))
  (fSeq (fSet 8 (fIf (gAnd (fT (fOp oEq (fVarF 10) (fC (.str "told")))) (fT (fOp oGt (fVarF 8) (fC (.int 3))))) (fVa (fC (.int 3))) (fMov 8)))
  (fSeq (fSet 9 (fIf (gAnd (fT (fOp oEq (fVarF 10) (fC (.str "told")))) (fT (fOp oGt (fVarF 9) (fC (.int 3))))) (fVa (fC (.int 3))) (fMov 9)))
  (fIfS (fT (fOp oNe (fFrz (fWords 14 "_law_words" qLam F__law_words (aCons (fVarF 7) (aCons (fVarF 11) (aCons (fVarF 12) (aCons (fVarF 8) (aCons (fVarF 9) aNil))))))) (fOp oMul (fFrz (fLst (aCons (fVarF 10) aNil))) (fC (.int 6))))) (fRet (fVa (fC (.bl false)))) fNx))))))))))
  (fRet (fVa (fC (.bl true))))))))))
def F_law := runT 1 15 14 f_law
theorem d_law (c__law_deck_of : CalK P w K mg base 1 "_law_deck_of" 1 (spP K F__law_deck_of)) (c__law_some_kind : CalK P w K mg base 4 "_law_some_kind" 2 (spI K F__law_some_kind)) (c__law_pick : CalK P w K mg base 3 "_law_pick" 2 (spI K F__law_pick)) (fr_list : mg "list" = none) (m_Layout : CalMK P w K mg base 3 "Layout" "Layout" 2 (spI K F_Layout)) (fr_range : mg "range" = none) (c__law_below : CalK P w K mg base 2 "_law_below" 2 (spI K F__law_below)) (c__law_is_bound : CalK P w K mg base 1 "_law_is_bound" 2 (spP K F__law_is_bound)) (p_total : CalGK P w K mg base 1 "Layout" "total" (spP K F_total)) (cls_Layout : Cls K (He.ga K "Layout")) (noat_degree : NoAttr K (He.ga K "Layout") "degree") (c__law_words : CalK P w K mg base 12 "_law_words" 5 (spPT K "_law_words" qLam F__law_words)) (E : XK) : SSs (gmOf P w K mg base N_law (defScope s_law) 12 E) (defBody s_law) f_law := (sss_cons (ss_set (i := 1) rfl (.inl rfl) (sw_call c__law_deck_of.c (Nat.le_of_ble_eq_true rfl) rfl (sa_cons (se_varF 0 rfl (.inl rfl)) sa_nil)) (Is.hl rfl))
  (sss_cons (ss_set (i := 2) rfl (.inl rfl) (sw_callI (i := 1) c__law_some_kind.c (Nat.le_of_ble_eq_true rfl) rfl rfl (.inl rfl) (sa_cons (se_frz (sw_callI (i := 1) c__law_pick.c (Nat.le_of_ble_eq_true rfl) rfl rfl (.inl rfl) (sa_cons (se_frz (sw_lst (sa_cons se_int (sa_cons se_int (sa_cons se_int sa_nil))))) sa_nil))) sa_nil)) (Is.hl rfl))
  (sss_cons (ss_set (i := 3) rfl (.inl rfl) (sw_lst (sa_cons se_non (sa_cons (se_tup sa_nil) (sa_cons (se_frz (w_list fr_list (sa_cons (se_varF 2 rfl (.inl rfl)) sa_nil))) (sa_cons (se_slT (se_varF 2 rfl (.inl rfl)) so_no (so_part se_int)) (sa_cons (e_bo bo_add (se_varF 2 rfl (.inl rfl)) (se_slT (se_varF 2 rfl (.inl rfl)) so_no (so_part se_int))) (sa_cons (se_tup (sa_cons (se_tup (sa_cons se_str (sa_cons se_int sa_nil))) (sa_cons (se_tup (sa_cons se_str (sa_cons se_int sa_nil))) sa_nil))) (sa_cons se_str (sa_cons (se_tup (sa_cons (se_tup (sa_cons se_str (sa_cons se_int sa_nil))) (sa_cons (se_tup (sa_cons se_str (sa_cons se_int sa_nil))) (sa_cons se_int sa_nil)))) sa_nil))))))))) (Is.hl rfl))
  (sss_cons (ss_set (i := 4) rfl (.inl rfl) (sw_lst (sa_cons (se_frz (sw_make m_Layout.c (Nat.le_of_ble_eq_true rfl) rfl (sa_cons (se_tup sa_nil) sa_nil))) (sa_cons (se_frz (sw_make m_Layout.c (Nat.le_of_ble_eq_true rfl) rfl (sa_cons (se_tup (sa_cons se_int sa_nil)) sa_nil))) (sa_cons (se_frz (sw_make m_Layout.c (Nat.le_of_ble_eq_true rfl) rfl (sa_cons (se_tup (sa_cons se_int (sa_cons se_int sa_nil))) sa_nil))) (sa_cons (se_frz (sw_make m_Layout.c (Nat.le_of_ble_eq_true rfl) rfl (sa_cons (se_tup (sa_cons se_int sa_nil)) sa_nil))) (sa_cons (se_frz (sw_make m_Layout.c (Nat.le_of_ble_eq_true rfl) rfl (sa_cons (se_tup (sa_cons se_int (sa_cons se_int (sa_cons se_int (sa_cons se_int sa_nil))))) sa_nil))) (sa_cons (se_frz (sw_make m_Layout.c (Nat.le_of_ble_eq_true rfl) rfl (sa_cons (e_bo bo_add (e_bo bo_mul (se_frz (sw_lst (sa_cons se_int sa_nil))) se_int) (se_frz (sw_lst (sa_cons se_int sa_nil)))) sa_nil))) sa_nil))))))) (Is.hl rfl))
  (sss_cons (ss_set (i := 5) rfl (.inl rfl) (sw_lst (sa_cons (e_neg se_int) (sa_cons se_int (sa_cons se_int (sa_cons se_int (sa_cons se_int (sa_cons se_int (sa_cons se_int (sa_cons se_bl (sa_cons se_bl (sa_cons se_non (sa_cons se_str (sa_cons (se_tup (sa_cons se_int sa_nil)) (sa_cons (se_frz (sw_lst (sa_cons se_int sa_nil))) (sa_cons (e_bo bo_pow se_int se_int) sa_nil))))))))))))))) (Is.hl rfl))
  (sss_cons (ss_for rfl (si_range1 rfl fr_range (sa_cons se_int sa_nil)) (sg_name (i := 6) rfl (.inl rfl) (Is.hl rfl)) (sss_cons (ss_set (i := 7) rfl (.inl rfl) (sw_if (t_co co_eq (se_frz (sw_callI (i := 1) c__law_below.c (Nat.le_of_ble_eq_true rfl) rfl rfl (.inl rfl) (sa_cons se_int sa_nil))) se_int) (sw_callI (i := 1) c__law_pick.c (Nat.le_of_ble_eq_true rfl) rfl rfl (.inl rfl) (sa_cons (se_varF 3 rfl (.inl rfl)) sa_nil)) (sw_mov 2 rfl (.inl rfl))) (Is.hl rfl))
  (sss_cons (ss_par (i := 11) (j := 12) rfl rfl (by decide) rfl rfl (sw_callI (i := 1) c__law_pick.c (Nat.le_of_ble_eq_true rfl) rfl rfl (.inl rfl) (sa_cons (e_bo bo_add (e_bo bo_mul (se_frz (sw_slL (se_varF 4 rfl (.inl rfl)) so_no (so_part se_int))) se_int) (se_varF 4 rfl (.inl rfl))) sa_nil)) (sw_callI (i := 1) c__law_pick.c (Nat.le_of_ble_eq_true rfl) rfl rfl (.inl rfl) (sa_cons (e_bo bo_add (e_bo bo_mul (se_frz (sw_slL (se_varF 4 rfl (.inl rfl)) so_no (so_part se_int))) se_int) (se_varF 4 rfl (.inl rfl))) sa_nil)) (by rintro ⟨⟩ h; cases h; rfl))
  (sss_cons (ss_set (i := 8) rfl (.inr rfl) (sw_callI (i := 1) c__law_pick.c (Nat.le_of_ble_eq_true rfl) rfl rfl (.inl rfl) (sa_cons (e_bo bo_add (se_frz (sw_lst (sa_cons se_int (sa_cons se_int (sa_cons se_int (sa_cons se_int (sa_cons se_int (sa_cons se_int (sa_cons se_int sa_nil))))))))) (se_frz (sw_lst (sa_cons (se_frz (sw_callI (i := 1) c__law_pick.c (Nat.le_of_ble_eq_true rfl) rfl rfl (.inl rfl) (sa_cons (se_varF 5 rfl (.inl rfl)) sa_nil))) sa_nil)))) sa_nil)) (Is.hl rfl))
  (sss_cons (ss_set (i := 9) rfl (.inr rfl) (sw_callI (i := 1) c__law_pick.c (Nat.le_of_ble_eq_true rfl) rfl rfl (.inl rfl) (sa_cons (e_bo bo_add (se_frz (sw_lst (sa_cons se_int (sa_cons se_int (sa_cons se_int (sa_cons se_int (sa_cons se_int (sa_cons se_int sa_nil)))))))) (se_frz (sw_lst (sa_cons (se_frz (sw_callI (i := 1) c__law_pick.c (Nat.le_of_ble_eq_true rfl) rfl rfl (.inl rfl) (sa_cons (se_varF 5 rfl (.inl rfl)) sa_nil))) sa_nil)))) sa_nil)) (Is.hl rfl))
  (sss_cons (ss_set (i := 10) rfl (.inl rfl) (sw_va se_str) (Is.hl rfl))
  (sss_cons (ss_if (t_co co_ne (se_varF 7 rfl (.inl rfl)) (se_varF 2 rfl (.inl rfl))) (sss_one (ss_set (i := 10) rfl (.inl rfl) (sw_va se_str) (Is.hl rfl))) (sss_one (ss_if (st_w (stw_or (st_not (st_val (se_frz (sw_call c__law_is_bound.c (Nat.le_of_ble_eq_true rfl) rfl (sa_cons (se_varF 8 rfl (.inr (.inl rfl))) (sa_cons se_int sa_nil)))))) (stw_or1 (st_not (st_val (se_frz (sw_call c__law_is_bound.c (Nat.le_of_ble_eq_true rfl) rfl (sa_cons (se_varF 9 rfl (.inr (.inl rfl))) (sa_cons se_int sa_nil))))))))) (sss_one (ss_set (i := 10) rfl (.inl rfl) (sw_va se_str) (Is.hl rfl))) (sss_one (ss_if (t_co co_neL (se_frz (sw_lc (own := [("layout", 13)]) (si_any (se_tup (sa_cons (se_varF 11 rfl (.inl rfl)) (sa_cons (se_varF 12 rfl (.inl rfl)) sa_nil)))) (blkOk_by (by rfl)) (sg_name (i := 13) rfl (.inl rfl) (Is.hlL rfl)) (by decide) (sts_one (st_w (stw_or (t_co co_gt (se_frz (sw_prop p_total.c (Nat.le_of_ble_eq_true rfl) (se_varF 13 rfl (.inl rfl)))) (se_varF 8 rfl (.inr (.inl rfl)))) (stw_or1 (t_co co_gt (se_fld cls_Layout noat_degree (se_varF 13 rfl (.inl rfl))) (se_varF 9 rfl (.inr (.inl rfl)))))))) (se_varF 13 rfl (.inl rfl)))) (se_frz (sw_lst sa_nil))) (sss_one (ss_set (i := 10) rfl (.inl rfl) (sw_va se_str) (Is.hl rfl))) sss_nil)))))
  (sss_cons (ss_set (i := 8) rfl (.inr rfl) (sw_if (st_w (stw_and (t_co co_eq (se_varF 10 rfl (.inl rfl)) se_str) (stw_and1 (t_co co_gt (se_varF 8 rfl (.inr (.inl rfl))) se_int)))) (sw_va se_int) (sw_mov 8 rfl (.inr (.inl rfl)))) (Is.hl rfl))
  (sss_cons (ss_set (i := 9) rfl (.inr rfl) (sw_if (st_w (stw_and (t_co co_eq (se_varF 10 rfl (.inl rfl)) se_str) (stw_and1 (t_co co_gt (se_varF 9 rfl (.inr (.inl rfl))) se_int)))) (sw_va se_int) (sw_mov 9 rfl (.inr (.inl rfl)))) (Is.hl rfl))
  (sss_one (ss_if (t_co co_ne (se_frz (sw_words (i := 14) c__law_words.c (Nat.le_of_ble_eq_true rfl) rfl (sa_cons (se_varF 7 rfl (.inl rfl)) (sa_cons (se_varF 11 rfl (.inl rfl)) (sa_cons (se_varF 12 rfl (.inl rfl)) (sa_cons (se_varF 8 rfl (.inr (.inl rfl))) (sa_cons (se_varF 9 rfl (.inr (.inl rfl))) sa_nil))))))) (e_bo bo_mul (se_frz (sw_lst (sa_cons (se_varF 10 rfl (.inl rfl)) sa_nil))) se_int)) (sss_one (ss_ret (sw_va se_bl))) sss_nil)))))))))))
  (sss_one (ss_ret (sw_va se_bl)))))))))
theorem sc_law : FnScope N_law ["script"] (defScope s_law) := ⟨rfl, rfl, rfl, by decide +kernel, rfl, by decide +kernel, by decide +kernel⟩

end
end FL
set_option linter.all false
namespace FL
/-! M1: plain lists: rows of factors without zeros at the end; waves -/
def trim : List Int → List Int
  | [] => []
  | x :: xs => if trim xs = [] ∧ x = 0 then [] else x :: trim xs
def at0 (fs : List Int) (j : Nat) : Int := fs[j]?.getD 0
@[simp] theorem at0_nil (j : Nat) : at0 [] j = 0 := by simp [at0]
@[simp] theorem at0_zero (x : Int) (xs : List Int) : at0 (x :: xs) 0 = x := by simp [at0]
@[simp] theorem at0_succ (x : Int) (xs : List Int) (j : Nat) : at0 (x :: xs) (j + 1) = at0 xs j := by simp [at0]
theorem at0_trim : ∀ (l : List Int) (j : Nat), at0 (trim l) j = at0 l j
  | [], j => by simp [trim]
  | x :: xs, j => by
    unfold trim
    split
    · rename_i h
      cases j with
      | zero => simp [h.2]
      | succ j => rw [at0_nil, at0_succ, ← at0_trim xs j, h.1, at0_nil]
    · cases j with
      | zero => simp
      | succ j => rw [at0_succ, at0_succ, at0_trim xs j]
theorem trim_nil_of : ∀ {l : List Int}, (∀ j, at0 l j = 0) → trim l = []
  | [], _ => rfl
  | x :: xs, h => by
    unfold trim
    rw [if_pos]
    refine ⟨trim_nil_of fun j => ?_, ?_⟩
    · have := h (j + 1); simpa using this
    · have := h 0; simpa using this
theorem trim_ext : ∀ {a b : List Int}, (∀ j, at0 a j = at0 b j) → trim a = trim b
  | [], b, h => by rw [trim_nil_of (l := b) fun j => by rw [← h j, at0_nil]]; rfl
  | x :: xs, [], h => by rw [trim_nil_of (l := x :: xs) fun j => by rw [h j, at0_nil]]; rfl
  | x :: xs, y :: ys, h => by
    have e : x = y := by simpa using h 0
    have e2 : trim xs = trim ys := trim_ext fun j => by simpa using h (j + 1)
    unfold trim
    rw [e, e2]
theorem trim_trim (l : List Int) : trim (trim l) = trim l := trim_ext fun j => at0_trim l j
theorem trim_snoc0 (l : List Int) : trim (l ++ [0]) = trim l := trim_ext fun j => by
  unfold at0
  rcases Nat.lt_trichotomy j l.length with h | h | h
  · rw [List.getElem?_append_left h]
  · subst h; simp
  · rw [List.getElem?_eq_none (by simp; omega), List.getElem?_eq_none (by omega)]
theorem trim_snoc {x : Int} (hx : x ≠ 0) : ∀ l : List Int, trim (l ++ [x]) = l ++ [x]
  | [] => by simp [trim, hx]
  | y :: ys => by
    rw [List.cons_append]
    unfold trim
    rw [trim_snoc hx ys, if_neg]
    simp
theorem trim_len_le : ∀ l : List Int, (trim l).length ≤ l.length
  | [] => by simp [trim]
  | x :: xs => by
    unfold trim
    split
    · simp
    · simpa using trim_len_le xs
theorem trim_len : ∀ {l : List Int} {n : Nat}, (∀ j, n ≤ j → at0 l j = 0) → (trim l).length ≤ n
  | [], n, _ => by simp [trim]
  | x :: xs, 0, h => by rw [trim_nil_of (l := x :: xs) fun j => h j (Nat.zero_le _)]; simp
  | x :: xs, n + 1, h => by
    have := trim_len (l := xs) (n := n) fun j hj => by simpa using h (j + 1) (by omega)
    unfold trim
    split
    · simp
    · simpa using this
theorem trim_sum : ∀ l : List Int, (trim l).sum = l.sum
  | [] => rfl
  | x :: xs => by
    have := trim_sum xs
    unfold trim
    split
    · rename_i h
      rw [h.1] at this
      simp [h.2, ← this]
    · simp [this]
theorem trim_sub : ∀ {l : List Int} {x : Int}, x ∈ trim l → x ∈ l
  | [], x, h => by simp [trim] at h
  | y :: ys, x, h => by
    unfold trim at h
    split at h
    · cases h
    · rcases List.mem_cons.mp h with h | h
      · exact h ▸ List.mem_cons_self
      · exact List.mem_cons_of_mem _ (trim_sub h)
theorem at0_mem {l : List Int} {j : Nat} (h : at0 l j ≠ 0) : at0 l j ∈ l := by
  unfold at0 at h ⊢
  cases q : l[j]? with
  | none => rw [q] at h; exact absurd rfl h
  | some x => exact List.mem_of_getElem? q
theorem at0_get {l : List Int} {j : Nat} (h : j < l.length) : at0 l j = l[j] := by simp [at0, h]
theorem at0_ge {l : List Int} {j : Nat} (h : l.length ≤ j) : at0 l j = 0 := by simp [at0, h]
theorem at0_nonneg {l : List Int} (h : ∀ x ∈ l, 0 ≤ x) (j : Nat) : 0 ≤ at0 l j := by
  by_cases q : at0 l j = 0
  · rw [q]; exact Int.le_refl 0
  · exact h _ (at0_mem q)
theorem at0_range (f : Nat → Int) (n j : Nat) : at0 ((List.range n).map f) j = if j < n then f j else 0 := by
  unfold at0
  split
  · rename_i h; simp [h]
  · rename_i h; simp [List.getElem?_eq_none (l := List.map f (List.range n)) (i := j) (by simp; omega)]
theorem at0_app0 (l : List Int) (n j : Nat) : at0 (l ++ List.replicate n 0) j = at0 l j := by
  unfold at0
  by_cases h : j < l.length
  · rw [List.getElem?_append_left h]
  · rw [List.getElem?_append_right (by omega), List.getElem?_eq_none (l := l) (by omega)]
    cases q : (List.replicate n (0 : Int))[j - l.length]? with
    | none => rfl
    | some x =>
      have := List.mem_of_getElem? q
      rw [List.mem_replicate] at this
      simp [this.2]
theorem at0_set (l : List Int) (i j : Nat) (x : Int) (h : i < l.length) : at0 (l.set i x) j = if j = i then x else at0 l j := by
  unfold at0
  rw [List.getElem?_set]
  by_cases e : i = j
  · subst e; simp [h]
  · rw [if_neg e, if_neg (fun z => e z.symm)]
theorem nodup_len {α : Type} [DecidableEq α] : ∀ {l m : List α}, l.Nodup → (∀ x ∈ l, x ∈ m) → l.length ≤ m.length
  | [], _, _, _ => by simp
  | x :: xs, m, nd, h => by
    rw [List.nodup_cons] at nd
    have hx : x ∈ m := h x List.mem_cons_self
    have := nodup_len (l := xs) (m := m.erase x) nd.2 fun y hy => (List.mem_erase_of_ne (by rintro rfl; exact nd.1 hy)).mpr (h y (List.mem_cons_of_mem _ hy))
    rw [List.length_erase_of_mem hx] at this
    have := List.length_pos_of_mem hx
    simp only [List.length_cons]
    omega
/-! rows of factors within bounds: how many -/
def comp : Nat → Nat → List (List Int)
  | 0, _ => [[]]
  | n + 1, p => (List.range (p + 1)).flatMap fun v => (comp n (p - v)).map fun r => (v : Int) :: r
def pad (n : Nat) (fs : List Int) : List Int := fs ++ List.replicate (n - fs.length) 0
theorem mem_comp : ∀ {n p : Nat} {r : List Int}, r.length = n → (∀ x ∈ r, 0 ≤ x) → r.sum ≤ p → r ∈ comp n p
  | 0, p, r, h, _, _ => by
    rw [List.length_eq_zero_iff] at h
    simp [comp, h]
  | n + 1, p, [], h, _, _ => by simp at h
  | n + 1, p, x :: r, h, h0, hs => by
    have hx := h0 x List.mem_cons_self
    have hr : 0 ≤ r.sum := by
      have : ∀ l : List Int, (∀ x ∈ l, 0 ≤ x) → 0 ≤ l.sum := by
        intro l
        induction l with
        | nil => intro _; simp
        | cons a l ih =>
          intro h
          have := h a List.mem_cons_self
          have := ih fun y hy => h y (List.mem_cons_of_mem _ hy)
          simp only [List.sum_cons]
          omega
      exact this r fun y hy => h0 y (List.mem_cons_of_mem _ hy)
    simp only [List.sum_cons] at hs
    unfold comp
    rw [List.mem_flatMap]
    refine ⟨x.toNat, by rw [List.mem_range]; omega, ?_⟩
    rw [List.mem_map]
    refine ⟨r, mem_comp (by simpa using h) (fun y hy => h0 y (List.mem_cons_of_mem _ hy)) (by omega), by congr 1; omega⟩
structure Valid (P D : Nat) (fs : List Int) : Prop where
  tr : trim fs = fs
  nn : ∀ x ∈ fs, 0 ≤ x
  len : fs.length ≤ D + 1
  sum : fs.sum ≤ P
theorem pad_inj {n : Nat} {a b : List Int} (ha : trim a = a) (hb : trim b = b) (h : pad n a = pad n b) : a = b := by
  rw [← ha, ← hb]
  refine trim_ext fun j => ?_
  rw [← at0_app0 a (n - a.length) j, ← at0_app0 b (n - b.length) j]
  exact congrArg (at0 · j) h
theorem valid_count {P D : Nat} {l : List (List Int)} (nd : l.Nodup) (h : ∀ x ∈ l, Valid P D x) : l.length ≤ (comp (D + 1) P).length := by
  have : (l.map (pad (D + 1))).length ≤ (comp (D + 1) P).length := by
    refine nodup_len ?_ fun x hx => ?_
    · refine List.pairwise_map.mpr ?_
      refine List.Pairwise.imp_of_mem ?_ nd
      intro a b ha hb ne e
      exact ne (pad_inj (h a ha).tr (h b hb).tr e)
    · obtain ⟨a, ha, rfl⟩ := List.mem_map.mp hx
      have v := h a ha
      refine mem_comp ?_ ?_ ?_
      · unfold pad; rw [List.length_append, List.length_replicate]; have := v.len; omega
      · intro y hy
        rcases List.mem_append.mp hy with hy | hy
        · exact v.nn y hy
        · rw [List.mem_replicate] at hy; omega
      · unfold pad; rw [List.sum_append]; have := v.sum; simp; omega
  simpa using this
theorem comp_44 : (comp 5 4).length = 126 := by decide +kernel
theorem comp_65 : (comp 6 6).length = 924 := by decide +kernel
theorem comp_56 : (comp 7 5).length = 792 := by decide +kernel
theorem comp_68 : (comp 9 6).length = 5005 := by decide +kernel
end FL
set_option linter.all false
namespace FL
/-! M2: steps of one place; waves over any graph -/
def cntP (ps : List Int) (k j : Nat) : Int := ((ps.countP fun p => decide ((k : Int) - 1 + p = j) : Nat) : Int)
def stp (ps fs : List Int) (k : Nat) (s : Int) : List Int :=
  trim ((List.range (fs.length + k + 6)).map fun j => at0 fs j + s * (cntP ps k j - if j = k then 1 else 0))
def canOpen (fs : List Int) (k : Nat) : Bool := decide (1 ≤ at0 fs k)
def canClose (ps fs : List Int) (k : Nat) : Bool := ps.all fun p => decide (((ps.count p : Nat) : Int) ≤ at0 fs (k - 1 + p.toNat))
def within (P D : Nat) (fs : List Int) : Bool := decide (fs.length ≤ D + 1) && decide (fs.sum ≤ P)
def nbk (ps : List Int) (P D : Nat) (fs : List Int) (k : Nat) : List (List Int) :=
  ((if canOpen fs k then [stp ps fs k 1] else []) ++ (if canClose ps fs k then [stp ps fs k (-1)] else [])).filter (within P D)
def nbr (ps : List Int) (P D : Nat) (fs : List Int) : List (List Int) := (List.range (D + 1)).flatMap fun i => nbk ps P D fs (i + 1)
theorem cntP_zero {ps : List Int} {k j : Nat} (h : ∀ p ∈ ps, (k : Int) - 1 + p ≠ j) : cntP ps k j = 0 := by
  unfold cntP
  rw [List.countP_eq_zero.mpr]
  · rfl
  · intro p hp; simpa using h p hp
theorem cntP_nonneg (ps : List Int) (k j : Nat) : 0 ≤ cntP ps k j := by unfold cntP; omega
theorem at0_stp {ps fs : List Int} {k : Nat} {s : Int} (hp : ∀ p ∈ ps, 0 ≤ p ∧ p ≤ 4) (j : Nat) : at0 (stp ps fs k s) j = at0 fs j + s * (cntP ps k j - if j = k then 1 else 0) := by
  unfold stp
  rw [at0_trim, at0_range]
  split
  · rfl
  · rename_i h
    rw [at0_ge (by omega), cntP_zero, if_neg (by omega)]
    · simp
    · intro p q; have := hp p q; omega
theorem stp_trim (ps fs : List Int) (k : Nat) (s : Int) : trim (stp ps fs k s) = stp ps fs k s := trim_trim _
theorem count_of_cntP {ps : List Int} {k j : Nat} (hk : 1 ≤ k) (hp : ∀ p ∈ ps, 0 ≤ p ∧ p ≤ 4) (h : cntP ps k j ≠ 0) : ∃ p ∈ ps, k - 1 + p.toNat = j ∧ cntP ps k j = (ps.count p : Nat) := by
  have : ∃ p ∈ ps, (k : Int) - 1 + p = j := by
    apply Classical.byContradiction
    intro n
    exact h (cntP_zero fun p hp e => n ⟨p, hp, e⟩)
  obtain ⟨p, h1, h2⟩ := this
  have := hp p h1
  refine ⟨p, h1, by omega, ?_⟩
  unfold cntP List.count
  congr 1
  refine List.countP_congr fun q hq => ?_
  simp
  omega
theorem at0_le_sum : ∀ {l : List Int} (h : ∀ x ∈ l, 0 ≤ x) (j : Nat), at0 l j ≤ l.sum
  | [], _, j => by simp
  | x :: xs, h, j => by
    have hx := h x List.mem_cons_self
    have h' : ∀ y ∈ xs, 0 ≤ y := fun y hy => h y (List.mem_cons_of_mem _ hy)
    have hs : 0 ≤ xs.sum := by
      have := at0_le_sum h' xs.length
      rw [at0_ge (Nat.le_refl _)] at this
      exact this
    cases j with
    | zero => simp; omega
    | succ j =>
      have := at0_le_sum h' j
      simp
      omega
theorem nn_of_at0 {l : List Int} (h : ∀ j, 0 ≤ at0 l j) : ∀ x ∈ l, 0 ≤ x := by
  intro x hx
  obtain ⟨i, hi, rfl⟩ := List.getElem_of_mem hx
  have := h i
  rwa [at0_get hi] at this
theorem mem_nbk {ps : List Int} {P D : Nat} {fs g : List Int} {k : Nat} (h : g ∈ nbk ps P D fs k) : within P D g = true ∧ ((canOpen fs k = true ∧ g = stp ps fs k 1) ∨ (canClose ps fs k = true ∧ g = stp ps fs k (-1))) := by
  unfold nbk at h
  rw [List.mem_filter, List.mem_append] at h
  refine ⟨h.2, ?_⟩
  rcases h.1 with h | h
  · split at h
    · rename_i q; exact .inl ⟨q, by simpa using h⟩
    · cases h
  · split at h
    · rename_i q; exact .inr ⟨q, by simpa using h⟩
    · cases h
theorem stp_nn {ps fs : List Int} {k : Nat} (hk : 1 ≤ k) (hp : ∀ p ∈ ps, 0 ≤ p ∧ p ≤ 4) (h0 : ∀ x ∈ fs, 0 ≤ x) {s : Int} (h : (canOpen fs k = true ∧ s = 1) ∨ (canClose ps fs k = true ∧ s = -1)) : ∀ x ∈ stp ps fs k s, 0 ≤ x := by
  refine nn_of_at0 fun j => ?_
  rw [at0_stp hp]
  have a := at0_nonneg h0 j
  have c := cntP_nonneg ps k j
  rcases h with ⟨h, rfl⟩ | ⟨h, rfl⟩
  · have h := of_decide_eq_true h
    split
    · rename_i e; subst e; omega
    · omega
  · by_cases q : cntP ps k j = 0
    · rw [q]; split <;> omega
    · obtain ⟨p, h1, h2, h3⟩ := count_of_cntP hk hp q
      have := of_decide_eq_true (List.all_eq_true.mp h p h1)
      rw [h2] at this
      rw [h3]
      split <;> omega
theorem nbr_valid {ps : List Int} {P D : Nat} {fs : List Int} (hp : ∀ p ∈ ps, 0 ≤ p ∧ p ≤ 4) (v : Valid P D fs) : ∀ g ∈ nbr ps P D fs, Valid P D g := by
  intro g hg
  unfold nbr at hg
  obtain ⟨i, _, hi⟩ := List.mem_flatMap.mp hg
  obtain ⟨w, h⟩ := mem_nbk hi
  unfold within at w
  rw [Bool.and_eq_true] at w
  refine ⟨?_, ?_, of_decide_eq_true w.1, of_decide_eq_true w.2⟩
  · rcases h with ⟨_, rfl⟩ | ⟨_, rfl⟩ <;> exact stp_trim _ _ _ _
  · rcases h with ⟨h, rfl⟩ | ⟨h, rfl⟩
    · exact stp_nn (by omega) hp v.nn (.inl ⟨h, rfl⟩)
    · exact stp_nn (by omega) hp v.nn (.inr ⟨h, rfl⟩)
/-! ### waves -/
section
variable {α : Type} [DecidableEq α]
def scan (K : List α) : List (α × α) → List (α × α)
  | [] => []
  | c :: r => if c.2 ∈ K then scan K r else c :: scan (K ++ [c.2]) r
theorem scan_in {K : List α} {c : α × α} {r : List (α × α)} (h : c.2 ∈ K) : scan K (c :: r) = scan K r := by rw [scan, if_pos h]
theorem scan_out {K : List α} {c : α × α} {r : List (α × α)} (h : c.2 ∉ K) : scan K (c :: r) = c :: scan (K ++ [c.2]) r := by rw [scan, if_neg h]
theorem scan_append : ∀ (K : List α) (a b : List (α × α)), scan K (a ++ b) = scan K a ++ scan (K ++ (scan K a).map (·.2)) b
  | K, [], b => by simp [scan]
  | K, c :: r, b => by
    rw [List.cons_append]
    by_cases h : c.2 ∈ K
    · rw [scan_in h, scan_in h]
      exact scan_append K r b
    · rw [scan_out h, scan_out h, scan_append (K ++ [c.2]) r b]
      simp
theorem scan_mem : ∀ {K : List α} {r : List (α × α)} {c : α × α}, c ∈ scan K r → c ∈ r ∧ c.2 ∉ K
  | K, [], c, h => by simp [scan] at h
  | K, d :: r, c, h => by
    unfold scan at h
    split at h
    · have := scan_mem h
      exact ⟨List.mem_cons_of_mem _ this.1, this.2⟩
    · rename_i n
      rcases List.mem_cons.mp h with rfl | h
      · exact ⟨List.mem_cons_self, n⟩
      · have := scan_mem h
        exact ⟨List.mem_cons_of_mem _ this.1, fun z => this.2 (List.mem_append_left _ z)⟩
theorem scan_nodup : ∀ {K : List α} {r : List (α × α)}, K.Nodup → (K ++ (scan K r).map (·.2)).Nodup
  | K, [], h => by simpa [scan] using h
  | K, d :: r, h => by
    unfold scan
    split
    · exact scan_nodup h
    · rename_i n
      have : (K ++ [d.2]).Nodup := by
        rw [List.nodup_append]
        refine ⟨h, by simp, fun a ha b hb => ?_⟩
        rw [List.mem_singleton] at hb
        subst hb
        rintro rfl
        exact n ha
      have := scan_nodup (r := r) this
      simpa using this
theorem scan_cover : ∀ {K : List α} {r : List (α × α)} {c : α × α}, c ∈ r → c.2 ∈ K ∨ c.2 ∈ (scan K r).map (·.2)
  | K, [], c, h => by cases h
  | K, d :: r, c, h => by
    unfold scan
    split
    · rename_i n
      rcases List.mem_cons.mp h with rfl | h
      · exact .inl n
      · exact scan_cover h
    · rcases List.mem_cons.mp h with rfl | h
      · exact .inr (by simp)
      · rcases scan_cover (K := K ++ [d.2]) h with h | h
        · rcases List.mem_append.mp h with h | h
          · exact .inl h
          · exact .inr (by simp at h; simp [h])
        · exact .inr (by rw [List.map_cons]; exact List.mem_cons_of_mem _ h)
def cands (nb : α → List α) (w : List α) : List (α × α) := w.flatMap fun s => (nb s).map fun t => (s, t)
def bst (nb : α → List α) (s : α) : Nat → List (α × Option α × Nat) × List α
  | 0 => ([(s, none, 0)], [s])
  | i + 1 => ((bst nb s i).1 ++ (scan ((bst nb s i).1.map (·.1)) (cands nb (bst nb s i).2)).map (fun c => (c.2, some c.1, i + 1)), (scan ((bst nb s i).1.map (·.1)) (cands nb (bst nb s i).2)).map (·.2))
def bT (nb : α → List α) (s : α) (i : Nat) := (bst nb s i).1
def bK (nb : α → List α) (s : α) (i : Nat) := (bst nb s i).1.map (·.1)
def bL (nb : α → List α) (s : α) (i : Nat) := (bst nb s i).2
variable {nb : α → List α} {s : α}
def bC (nb : α → List α) (s : α) (i : Nat) : List (α × α) := scan (bK nb s i) (cands nb (bL nb s i))
theorem bT_zero : bT nb s 0 = [(s, none, 0)] := rfl
theorem bK_zero : bK nb s 0 = [s] := rfl
theorem bL_zero : bL nb s 0 = [s] := rfl
theorem bT_succ (i : Nat) : bT nb s (i + 1) = bT nb s i ++ (bC nb s i).map fun c => (c.2, some c.1, i + 1) := rfl
theorem bL_succ (i : Nat) : bL nb s (i + 1) = (bC nb s i).map (·.2) := rfl
theorem bK_succ (i : Nat) : bK nb s (i + 1) = bK nb s i ++ bL nb s (i + 1) := by
  show (bT nb s (i + 1)).map (·.1) = _
  rw [bT_succ, bL_succ, List.map_append, List.map_map]
  rfl
theorem bK_eq (i : Nat) : bK nb s i = (bT nb s i).map (·.1) := rfl
theorem bK_nodup : ∀ i, (bK nb s i).Nodup
  | 0 => by simp [bK_zero]
  | i + 1 => by
    rw [bK_succ, bL_succ]
    exact scan_nodup (bK_nodup i)
theorem bL_sub_K : ∀ i, ∀ x ∈ bL nb s i, x ∈ bK nb s i
  | 0, x, h => h
  | i + 1, x, h => by rw [bK_succ]; exact List.mem_append_right _ h
theorem bK_mono {i j : Nat} (h : i ≤ j) : ∀ x ∈ bK nb s i, x ∈ bK nb s j := by
  induction h with
  | refl => exact fun x h => h
  | step _ ih => intro x h; rw [bK_succ]; exact List.mem_append_left _ (ih x h)
theorem bT_mono {i j : Nat} (h : i ≤ j) : ∀ x ∈ bT nb s i, x ∈ bT nb s j := by
  induction h with
  | refl => exact fun x h => h
  | step _ ih => intro x h; rw [bT_succ]; exact List.mem_append_left _ (ih x h)
theorem bK_lev {i : Nat} {x : α} (h : x ∈ bK nb s i) : ∃ j, j ≤ i ∧ x ∈ bL nb s j := by
  induction i with
  | zero => exact ⟨0, Nat.le_refl _, h⟩
  | succ i ih =>
    rw [bK_succ] at h
    rcases List.mem_append.mp h with h | h
    · obtain ⟨j, h1, h2⟩ := ih h
      exact ⟨j, by omega, h2⟩
    · exact ⟨i + 1, Nat.le_refl _, h⟩
theorem bL_new {i : Nat} {x : α} (h : x ∈ bL nb s (i + 1)) : x ∉ bK nb s i := by
  rw [bL_succ] at h
  obtain ⟨c, h1, rfl⟩ := List.mem_map.mp h
  exact (scan_mem h1).2
theorem bL_uniq {i j : Nat} {x : α} (hi : x ∈ bL nb s i) (hj : x ∈ bL nb s j) : i = j := by
  have go : ∀ {i j : Nat}, i < j → x ∈ bL nb s i → x ∈ bL nb s j → False := by
    intro i j h hi hj
    cases j with
    | zero => omega
    | succ j => exact bL_new hj (bK_mono (by omega) x (bL_sub_K i x hi))
  rcases Nat.lt_trichotomy i j with h | h | h
  · exact (go h hi hj).elim
  · exact h
  · exact (go h hj hi).elim
/-- an entry of the table -/
theorem bT_entry {n i : Nat} {x : α} {p : Option α} (h : (x, p, i) ∈ bT nb s n) : i ≤ n ∧ x ∈ bL nb s i ∧ ((i = 0 ∧ x = s ∧ p = none) ∨ ∃ j y, i = j + 1 ∧ p = some y ∧ y ∈ bL nb s j ∧ x ∈ nb y) := by
  induction n with
  | zero =>
    rw [bT_zero] at h
    simp at h
    obtain ⟨rfl, rfl, rfl⟩ := h
    exact ⟨Nat.le_refl _, by simp [bL_zero], .inl ⟨rfl, rfl, rfl⟩⟩
  | succ n ih =>
    rw [bT_succ] at h
    rcases List.mem_append.mp h with h | h
    · obtain ⟨h1, h2⟩ := ih h
      exact ⟨by omega, h2⟩
    · obtain ⟨c, h1, h2⟩ := List.mem_map.mp h
      injection h2 with e1 e2
      injection e2 with e2 e3
      subst e1 e2 e3
      refine ⟨Nat.le_refl _, by rw [bL_succ]; exact List.mem_map_of_mem h1, .inr ⟨n, c.1, rfl, rfl, ?_⟩⟩
      have := (scan_mem h1).1
      unfold cands at this
      obtain ⟨y, h3, h4⟩ := List.mem_flatMap.mp this
      obtain ⟨t, h5, h6⟩ := List.mem_map.mp h4
      rw [← h6]
      exact ⟨h3, h5⟩
theorem bT_of {n i : Nat} {x : α} (h : x ∈ bL nb s i) (hi : i ≤ n) : ∃ p, (x, p, i) ∈ bT nb s n := by
  cases i with
  | zero =>
    rw [bL_zero] at h
    simp at h
    subst h
    exact ⟨none, bT_mono hi _ (by simp [bT_zero])⟩
  | succ i =>
    rw [bL_succ] at h
    obtain ⟨c, h1, rfl⟩ := List.mem_map.mp h
    refine ⟨some c.1, bT_mono hi _ ?_⟩
    rw [bT_succ]
    exact List.mem_append_right _ (List.mem_map.mpr ⟨c, h1, rfl⟩)
/-- the way back -/
inductive Back (nb : α → List α) (s : α) (n : Nat) : α → List α → Prop
  | base : (s, none, 0) ∈ bT nb s n → Back nb s n s [s]
  | step {x y : α} {i : Nat} {l : List α} : (x, some y, i + 1) ∈ bT nb s n → x ∈ nb y → Back nb s n y l → Back nb s n x (x :: l)
theorem back_ex {n : Nat} : ∀ {i : Nat} {x : α}, x ∈ bL nb s i → i ≤ n → ∃ l, Back nb s n x l ∧ l.length = i + 1
  | 0, x, h, hi => by
    rw [bL_zero] at h
    simp at h
    subst h
    obtain ⟨p, hp⟩ := bT_of (nb := nb) (n := n) (i := 0) (x := x) (s := x) (by simp [bL_zero]) hi
    have := bT_entry hp
    rcases this.2.2 with ⟨_, _, rfl⟩ | ⟨j, y, e, _⟩
    · exact ⟨[x], .base hp, rfl⟩
    · omega
  | i + 1, x, h, hi => by
    obtain ⟨p, hp⟩ := bT_of (n := n) h hi
    have := bT_entry hp
    rcases this.2.2 with ⟨e, _⟩ | ⟨j, y, e, rfl, h1, h2⟩
    · omega
    · have e : i = j := by omega
      subst e
      obtain ⟨l, h3, h4⟩ := back_ex (n := n) h1 (by omega)
      exact ⟨x :: l, .step hp h2 h3, by simp [h4]⟩
theorem Back.head {n : Nat} {x : α} {l : List α} (h : Back nb s n x l) : l.head? = some x := by cases h <;> rfl
theorem Back.last {n : Nat} {x : α} {l : List α} (h : Back nb s n x l) : l.getLast? = some s := by
  induction h with
  | base _ => rfl
  | step _ _ h ih =>
    cases h with
    | base _ => simpa using ih
    | step _ _ _ => simpa using ih
theorem Back.sub {n : Nat} {x : α} {l : List α} (h : Back nb s n x l) : ∀ y ∈ l, y ∈ bK nb s n := by
  induction h with
  | base h => intro y hy; simp at hy; subst hy; rw [bK_eq]; exact List.mem_map.mpr ⟨_, h, rfl⟩
  | step h _ _ ih =>
    intro y hy
    rcases List.mem_cons.mp hy with rfl | hy
    · rw [bK_eq]; exact List.mem_map.mpr ⟨_, h, rfl⟩
    · exact ih y hy
theorem Back.link {n : Nat} {x : α} {l : List α} (h : Back nb s n x l) : ∀ j a b, l[j]? = some a → l[j + 1]? = some b → a ∈ nb b := by
  induction h with
  | base h => intro j a b _ h2; simp at h2
  | step h h2 h3 ih =>
    intro j a b ha hb
    cases j with
    | zero =>
      simp at ha
      subst ha
      have := h3.head
      simp at hb
      rw [List.head?_eq_getElem?, hb] at this
      injection this with this
      subst this
      exact h2
    | succ j => exact ih j a b (by simpa using ha) (by simpa using hb)
/-! ### the end of the waves -/
theorem bL_nil {i j : Nat} (h : bL nb s i = []) (hj : i ≤ j) : bst nb s j = ((bst nb s i).1, []) := by
  induction hj with
  | refl => exact Prod.ext rfl h
  | step _ ih =>
    show ((bst nb s _).1 ++ _, _) = _
    rw [ih]
    simp [cands, scan]
theorem least {p : Nat → Prop} : ∀ {m : Nat}, p m → ∃ n, n ≤ m ∧ p n ∧ ∀ i, i < n → ¬p i
  | 0, h => ⟨0, Nat.le_refl _, h, fun i hi => by omega⟩
  | m + 1, h => by
    by_cases q : ∃ i, i ≤ m ∧ p i
    · obtain ⟨i, h1, h2⟩ := q
      obtain ⟨n, h3, h4, h5⟩ := least (p := p) (m := i) h2
      exact ⟨n, by omega, h4, h5⟩
    · exact ⟨m + 1, Nat.le_refl _, h, fun i hi z => q ⟨i, by omega, z⟩⟩
termination_by m => m
theorem bK_len {i : Nat} (h : ∀ j, j ≤ i → bL nb s j ≠ []) : i + 1 ≤ (bK nb s i).length := by
  induction i with
  | zero => simp [bK_zero]
  | succ i ih =>
    have := ih fun j hj => h j (by omega)
    have h2 := List.length_pos_iff.mpr (h (i + 1) (Nat.le_refl _))
    rw [bK_succ, List.length_append]
    omega
theorem bfs_end {B : Nat} (hB : ∀ i, (bK nb s i).length ≤ B) : ∃ N, N ≤ B ∧ bL nb s N = [] ∧ ∀ i, i < N → bL nb s i ≠ [] := by
  have : bL nb s B = [] ∨ ∃ j, j ≤ B ∧ bL nb s j = [] := by
    apply Classical.byContradiction
    intro n
    have := bK_len (nb := nb) (s := s) (i := B) fun j hj z => n (.inr ⟨j, hj, z⟩)
    have := hB B
    omega
  obtain ⟨j, h1, h2⟩ : ∃ j, j ≤ B ∧ bL nb s j = [] := by
    rcases this with h | h
    · exact ⟨B, Nat.le_refl _, h⟩
    · exact h
  obtain ⟨n, h3, h4, h5⟩ := least (p := fun i => bL nb s i = []) h2
  exact ⟨n, by omega, h4, h5⟩
/-- where the other is found -/
theorem bfs_found {x : α} {i : Nat} (h : x ∈ bL nb s i) : (∀ j, j < i → bL nb s j ≠ [] ∧ x ∉ bK nb s j) ∧ x ∈ bK nb s i := by
  refine ⟨fun j hj => ⟨fun z => ?_, fun z => ?_⟩, bL_sub_K i x h⟩
  · have := bL_nil (nb := nb) (s := s) z (Nat.le_of_lt hj)
    have : bL nb s i = [] := congrArg (·.2) this
    rw [this] at h
    cases h
  · obtain ⟨k, h1, h2⟩ := bK_lev z
    have := bL_uniq h h2
    omega
theorem bK_valid {V : α → Prop} (hs : V s) (hn : ∀ x, V x → ∀ y ∈ nb x, V y) : ∀ i, ∀ x ∈ bK nb s i, V x
  | 0, x, h => by simp [bK_zero] at h; exact h ▸ hs
  | i + 1, x, h => by
    rw [bK_succ] at h
    rcases List.mem_append.mp h with h | h
    · exact bK_valid hs hn i x h
    · obtain ⟨p, hp⟩ := bT_of h (Nat.le_refl _)
      rcases (bT_entry hp).2.2 with ⟨e, _⟩ | ⟨j, y, e, _, h1, h2⟩
      · omega
      · have : j = i := by omega
        subst this
        exact hn y (bK_valid hs hn j y (bL_sub_K j y h1)) x h2
end
end FL
set_option Elab.async false
set_option linter.all false
set_option maxRecDepth 100000
set_option maxHeartbeats 1000000
/-! E1: what a body's function computes: rules for simp -/
namespace FL
open PySem PySem.Spec PyProof.Rows L2
section
variable {α β : Type}
def bnd (x : Option (R α)) (k : α → F β) : Option (R β) := match x with
  | some (.ok a ρ) => k a ρ
  | some (.ex e ρ) => some (.ex e ρ)
  | none => none
def bndS (x : Option (R α)) (k : α → FS) (n : Nat) : Option Out := match x with
  | some (.ok a ρ) => k a n ρ
  | some (.ex e ρ) => some (.ex e ρ)
  | none => none
def seqS (x : Option Out) (b : FS) (n : Nat) : Option Out := match x with
  | some (.nx ρ') => b n ρ'
  | o => o
def selF (x : Option (R Bool)) (a b : F β) : Option (R β) := match x with
  | some (.ok true ρ) => a ρ
  | some (.ok false ρ) => b ρ
  | some (.ex e ρ) => some (.ex e ρ)
  | none => none
def selS (x : Option (R Bool)) (a b : FS) (n : Nat) : Option Out := match x with
  | some (.ok true ρ) => a n ρ
  | some (.ok false ρ) => b n ρ
  | some (.ex e ρ) => some (.ex e ρ)
  | none => none
variable {a : α} {ρ : Rho} {e : Ex} {k : α → F β} {kS : α → FS} {b : FS} {n : Nat} {f : F α} {fa fb : F β} {sa sb : FS} {w : W}
@[simp] theorem bnd_ok : bnd (some (.ok a ρ)) k = k a ρ := (rfl)
@[simp] theorem bnd_ex : bnd (some (.ex e ρ) : Option (R α)) k = some (.ex e ρ) := (rfl)
@[simp] theorem bndS_ok : bndS (some (.ok a ρ)) kS n = kS a n ρ := (rfl)
@[simp] theorem bndS_ex : bndS (some (.ex e ρ) : Option (R α)) kS n = some (.ex e ρ) := (rfl)
@[simp] theorem seqS_nx : seqS (some (.nx ρ)) b n = b n ρ := (rfl)
@[simp] theorem seqS_rt : seqS (some (.rt w ρ)) b n = some (.rt w ρ) := (rfl)
@[simp] theorem seqS_ex : seqS (some (.ex e ρ)) b n = some (.ex e ρ) := (rfl)
@[simp] theorem selF_t : selF (some (.ok true ρ)) fa fb = fa ρ := (rfl)
@[simp] theorem selF_f : selF (some (.ok false ρ)) fa fb = fb ρ := (rfl)
@[simp] theorem selS_t : selS (some (.ok true ρ)) sa sb n = sa n ρ := (rfl)
@[simp] theorem selS_f : selS (some (.ok false ρ)) sa sb n = sb n ρ := (rfl)
@[simp] theorem e_bind {k : α → F β} : F.bind f k ρ = bnd (f ρ) k := (rfl)
@[simp] theorem e_ret : F.ret a ρ = some (.ok a ρ) := (rfl)
@[simp] theorem e_of {o : Option α} : F.of o ρ = o.map (.ok · ρ) := (rfl)
@[simp] theorem e_FSof {k : α → FS} : FS.of f k n ρ = bndS (f ρ) k n := (rfl)
@[simp] theorem e_nx : fNx n ρ = some (.nx ρ) := (rfl)
@[simp] theorem e_seq {a b : FS} : fSeq a b n ρ = seqS (a n ρ) b n := by
  unfold fSeq seqS
  rfl
@[simp] theorem e_ifS {c : F Bool} : fIfS c sa sb n ρ = selS (c ρ) sa sb n := by
  unfold fIfS FS.of selS
  split <;> rename_i q <;> rw [q]
  rename_i k _
  cases k <;> rfl
@[simp] theorem e_if {c : F Bool} : fIf c fa fb ρ = selF (c ρ) fa fb := by
  unfold fIf F.bind selF
  split <;> rename_i q <;> rw [q]
  rename_i k _
  cases k <;> rfl
@[simp] theorem e_retS {f : F W} : fRet f n ρ = bndS (f ρ) (fun w _ ρ => some (.rt w ρ)) n := (rfl)
@[simp] theorem e_dropS {f : F W} : fDrop f n ρ = bndS (f ρ) (fun _ _ ρ => some (.nx ρ)) n := (rfl)
@[simp] theorem e_setS {i : Nat} {f : F W} : fSet i f n ρ = bndS (f ρ) (fun w _ ρ => if i < ρ.length then some (.nx (ρ.set i (.so false w))) else none) n := (rfl)
@[simp] theorem e_par {i j : Nat} {f1 f2 : F W} : fPar i j f1 f2 n ρ = bndS (f1 ρ) (fun w1 => FS.of f2 fun w2 _ ρ => if i < ρ.length ∧ j < ρ.length then some (.nx ((ρ.set i (.so false w1)).set j (.so false w2))) else none) n := (rfl)
@[simp] theorem e_parN {js : List Nat} {fs : F (List W)} : fParN js fs n ρ = bndS (fs ρ) (fun ws _ ρ => (putWs js ws ρ).map .nx) n := (rfl)
@[simp] theorem e_asg {f : F D} {tg : D → Rho → Option Rho} : fAsg f tg n ρ = bndS (f ρ) (fun d _ ρ => (tg d ρ).map .nx) n := (rfl)
@[simp] theorem e_for {fi : F (List D)} {tg : D → Rho → Option Rho} {body : FS} : fFor fi tg body n ρ = bndS (fi ρ) (fun ds => forL tg body ds) n := (rfl)
theorem e_put {i : Nat} {o : W → D → D → Option W} {fv fi : F D} : fPut i o fv fi n ρ = bndS (fv ρ) (fun d n ρ => match ρ[i]? with
  | some (.so _ _) => (FS.of fi fun k _ ρ1 => match ρ1[i]? with
    | some (.so io w0) => (o w0 k d).map fun s => .nx (ρ1.set i (.so io s))
    | _ => none) n ρ
  | _ => none) n := (rfl)
@[simp] theorem e_fldput {i : Nat} {cn f : Str} {fv : F D} : fFldPut i cn f fv n ρ = bndS (fv ρ) (fun d n ρ => match ρ[i]? with
  | some (.so io (.ob c ws)) => if c = cn ∧ ws.length < 1000 then (vas? ws).map fun ds => .nx (ρ.set i (.so io (.ob c ((putDF f d ds).map fun p => (p.1, W.va p.2))))) else none
  | _ => none) n := (rfl)
@[simp] theorem e_raise {cn : Str} : fRaise cn n ρ = some (.ex ⟨cn, none⟩ ρ) := (rfl)
-- expressions
@[simp] theorem e_C {d : D} : fC d ρ = some (.ok d ρ) := (rfl)
@[simp] theorem e_U {o : D → Option D} {fa : F D} : fU o fa ρ = bnd (fa ρ) fun d => F.of (o d) := (rfl)
@[simp] theorem e_Op {o : D → D → Option D} {fa fb : F D} : fOp o fa fb ρ = bnd (fa ρ) fun x => fb.bind fun y => F.of (o x y) := (rfl)
@[simp] theorem e_OpL {o : D → D → Option (List D)} {fa fb : F D} : fOpL o fa fb ρ = bnd (fa ρ) fun x => fb.bind fun y => F.of ((o x y).map .ls) := (rfl)
@[simp] theorem e_Frz {f : F W} : fFrz f ρ = bnd (f ρ) fun w => F.ret (frz w) := (rfl)
@[simp] theorem e_Va {f : F D} : fVa f ρ = bnd (f ρ) fun w => F.ret (.va w) := (rfl)
@[simp] theorem e_aNil : aNil ρ = some (.ok [] ρ) := (rfl)
@[simp] theorem e_aCons {f : F D} {r : F (List D)} : aCons f r ρ = bnd (f ρ) fun d => r.bind fun ds => F.ret (d :: ds) := (rfl)
@[simp] theorem e_wNil : wNil ρ = some (.ok [] ρ) := (rfl)
@[simp] theorem e_wCons {f : F W} {r : F (List W)} : wCons f r ρ = bnd (f ρ) fun d => r.bind fun ds => F.ret (d :: ds) := (rfl)
@[simp] theorem e_T {f : F D} : fT f ρ = bnd (f ρ) fun d => F.of (bl? d) := (rfl)
def chn (k : Bool) (o' : D → D → Option D) (y : D) (fc : F D) : F D := if k then fc.bind fun z => F.of (o' y z) else F.ret (.bl false)
@[simp] theorem e_Chain {o o' : D → D → Option D} {fa fb fc : F D} : fChain o o' fa fb fc ρ = bnd (fa ρ) fun x => fb.bind fun y => (F.of ((o x y).bind bl?)).bind fun k => chn k o' y fc := (rfl)
@[simp] theorem chn_t {o' : D → D → Option D} {y : D} {fc : F D} : chn true o' y fc ρ = bnd (fc ρ) fun z => F.of (o' y z) := (rfl)
@[simp] theorem chn_f {o' : D → D → Option D} {y : D} {fc : F D} : chn false o' y fc ρ = some (.ok (.bl false) ρ) := (rfl)
@[simp] theorem e_gAnd {ga gb : F Bool} : gAnd ga gb ρ = selF (ga ρ) gb (F.ret false) := by
  unfold gAnd F.bind selF
  split <;> rename_i q <;> rw [q]
  rename_i k _
  cases k <;> rfl
@[simp] theorem e_gOr {ga gb : F Bool} : gOr ga gb ρ = selF (ga ρ) (F.ret true) gb := by
  unfold gOr F.bind selF
  split <;> rename_i q <;> rw [q]
  rename_i k _
  cases k <;> rfl
@[simp] theorem e_gNot {ga : F Bool} : gNot ga ρ = bnd (ga ρ) fun k => F.ret (!k) := (rfl)
@[simp] theorem e_And {fa fb : F D} : fAnd fa fb ρ = selF (fT fa ρ) fb (F.ret (.bl false)) := by
  unfold fAnd F.bind selF
  split <;> rename_i q <;> rw [q]
  rename_i k _
  cases k <;> rfl
@[simp] theorem e_Or {fa fb : F D} : fOr fa fb ρ = selF (fT fa ρ) (F.ret (.bl true)) fb := by
  unfold fOr F.bind selF
  split <;> rename_i q <;> rw [q]
  rename_i k _
  cases k <;> rfl
@[simp] theorem e_Not {fa : F D} : fNot fa ρ = bnd (fT fa ρ) fun k => F.ret (.bl (!k)) := (rfl)
@[simp] theorem e_oNo : oNo ρ = some (.ok none ρ) := (rfl)
@[simp] theorem e_oPart {f : F D} : oPart f ρ = bnd (f ρ) fun d => F.of ((int? d).map some) := (rfl)
@[simp] theorem e_SlT {fa : F D} {fl fh : F (Option Int)} : fSlT fa fl fh ρ = bnd (fa ρ) fun d => fl.bind fun l => fh.bind fun h => F.of (oSlT d l h) := (rfl)
@[simp] theorem e_SlL {fa : F D} {fl fh : F (Option Int)} : fSlL fa fl fh ρ = bnd (fa ρ) fun d => fl.bind fun l => fh.bind fun h => F.of ((oSlL d l h).map .ls) := (rfl)
@[simp] theorem e_RevL {fa : F D} : fRevL fa ρ = bnd (fa ρ) fun d => F.of ((sqL? d).map fun xs => .ls xs.reverse) := (rfl)
@[simp] theorem e_RevT {fa : F D} : fRevT fa ρ = bnd (fa ρ) fun d => F.of (oRevT d) := (rfl)
@[simp] theorem e_Tup {fs : F (List D)} : fTup fs ρ = bnd (fs ρ) fun ds => F.of (if ds.length ≤ sizeLine then some (.tup ds) else none) := (rfl)
@[simp] theorem e_Lst {fs : F (List D)} : fLst fs ρ = bnd (fs ρ) fun ds => F.of (if ds.length ≤ sizeLine then some (.ls ds) else none) := (rfl)
@[simp] theorem e_Call {o : List D → Option D} {fs : F (List D)} : fCall o fs ρ = bnd (fs ρ) fun ds => F.of (o ds) := (rfl)
@[simp] theorem e_CallL {o : List D → Option (List D)} {fs : F (List D)} : fCallL o fs ρ = bnd (fs ρ) fun ds => F.of ((o ds).map .ls) := (rfl)
@[simp] theorem e_Fld {c f : Str} {fa : F D} : fFld c f fa ρ = bnd (fa ρ) fun d => F.of (oFld c f d) := (rfl)
def callP (x : Option RP) (ρ : Rho) : Option (R W) := match x with
  | some (.ret w) => some (.ok w ρ)
  | some (.exc e) => some (.ex e ρ)
  | none => none
@[simp] theorem callP_ret {w : W} : callP (some (.ret w)) ρ = some (.ok w ρ) := (rfl)
@[simp] theorem callP_exc {e : Ex} : callP (some (.exc e)) ρ = some (.ex e ρ) := (rfl)
@[simp] theorem e_CallP {Fn : List D → Option RP} {fs : F (List D)} : fCallP Fn fs ρ = bnd (fs ρ) fun ds ρ => callP (Fn ds) ρ := by
  unfold fCallP callP
  rfl
@[simp] theorem e_Call0 {Fn : List D → Option RP} : fCall0 Fn ρ = callP (Fn []) ρ := by
  unfold fCall0
  rw [e_CallP, e_aNil, bnd_ok]
def callM (x : Option RI) (ρ : Rho) : Option (R W) := match x with
  | some (.ret (.va .non) s) => some (.ok s ρ)
  | some (.exc e _) => some (.ex e ρ)
  | _ => none
@[simp] theorem callM_ret {s : W} : callM (some (.ret (.va .non) s)) ρ = some (.ok s ρ) := (rfl)
@[simp] theorem e_Make {cn : Str} {Fn : W → List D → Option RI} {fs : F (List D)} : fMake cn Fn fs ρ = bnd (fs ρ) fun ds ρ => callM (Fn (.ob cn []) ds) ρ := by
  unfold fMake callM
  rfl
def callI (i : Nat) (x : Option RI) (io : Bool) (ρ1 : Rho) : Option (R W) := match x with
  | some (.ret w s) => some (.ok w (ρ1.set i (.so io s)))
  | some (.exc e s) => some (.ex e (ρ1.set i (.so io s)))
  | none => none
@[simp] theorem callI_ret {i : Nat} {io : Bool} {w s : W} : callI i (some (.ret w s)) io ρ = some (.ok w (ρ.set i (.so io s))) := (rfl)
theorem e_CallI {i : Nat} {Fn : W → List D → Option RI} {fs : F (List D)} : fCallI i Fn fs ρ = match ρ[i]? with
  | some (.so _ _) => bnd (fs ρ) fun ds ρ1 => match ρ1[i]? with
    | some (.so io w0) => callI i (Fn w0 ds) io ρ1
    | _ => none
  | _ => none := by
  unfold fCallI callI
  rfl
@[simp] theorem e_Items {fa : F D} : fItems fa ρ = bnd (fa ρ) fun d => F.of (items? d) := (rfl)
@[simp] theorem e_It {o : List D → Option (List D)} {fs : F (List D)} : fIt o fs ρ = bnd (fs ρ) fun ds => F.of (o ds) := (rfl)
@[simp] theorem e_Lc {fi : F (List D)} {tg : D → Rho → Option Rho} {gt : F Bool} {fe : F D} {vs : List Nat} : fLc fi tg gt fe vs ρ = bnd (fi ρ) fun ds ρ => if ds.length ≤ sizeLine then (lcLoop tg gt fe vs ds [] ρ).map fun p => .ok (.ls p.1) p.2 else none := (rfl)
@[simp] theorem e_LenSet {fi : F (List D)} {tg : D → Rho → Option Rho} {gt : F Bool} {fe : F D} {vs : List Nat} : fLenSet fi tg gt fe vs ρ = bnd (fi ρ) fun ds ρ => if ds.length + 1 < scanBound then (scLoop tg gt fe vs ds [] ρ).map fun p => .ok (.int (p.1.length : Nat)) p.2 else none := (rfl)
@[simp] theorem e_Dsp {fa fb : F D} : fDsp fa fb ρ = bnd (fa ρ) fun k => fb.bind fun v => F.of ((tkey? k).map fun ks => .dt [(ks, v)]) := (rfl)
@[simp] theorem e_DGet1 {fd fk : F D} : fDGet1 fd fk ρ = bnd (fd ρ) fun x ρ1 => if isDct x then bnd (fk ρ1) (fun y => F.of ((dget? x y).map fun o => o.getD .non)) else none := by
  unfold fDGet1 F.bind bnd
  cases fd ρ with
  | none => rfl
  | some r =>
    cases r with
    | ex e ρ' => rfl
    | ok d ρ' =>
      by_cases h : isDct d = true
      · first
        | (simp only [if_pos h]; done)
        | (simp only [if_pos h]; rfl)
      · simp only [if_neg h]
@[simp] theorem e_Mth {ok : D → Bool} {o : D → List D → Option D} {fa : F D} {fs : F (List D)} : fMth ok o fa fs ρ = bnd (fa ρ) fun d ρ1 => if ok d then bnd (fs ρ1) (fun ds => F.of (o d ds)) else none := by
  unfold fMth F.bind bnd
  cases fa ρ with
  | none => rfl
  | some r =>
    cases r with
    | ex e ρ' => rfl
    | ok d ρ' =>
      by_cases h : ok d = true
      · first
        | (simp only [if_pos h]; done)
        | (simp only [if_pos h]; rfl)
      · simp only [if_neg h]
def peekR (x : Option (R D)) (ρ : Rho) : Option (R D) := match x with
  | some (.ok d _) => if flat0 d then some (.ok d ρ) else none
  | _ => none
def peekB (x : Option (R Bool)) (ρ : Rho) : Option (R Bool) := match x with
  | some (.ok d _) => some (.ok d ρ)
  | _ => none
@[simp] theorem peekR_ok {d : D} {ρ' : Rho} : peekR (some (.ok d ρ')) ρ = if flat0 d then some (.ok d ρ) else none := (rfl)
@[simp] theorem peekB_ok {d : Bool} {ρ' : Rho} : peekB (some (.ok d ρ')) ρ = some (.ok d ρ) := (rfl)
@[simp] theorem e_Peek {f : F D} : fPeek f ρ = peekR (f (ρ.map frzSl)) ρ := by
  unfold fPeek peekR
  rfl
@[simp] theorem e_gPeek {f : F Bool} : gPeek f ρ = peekB (f (ρ.map frzSl)) ρ := by
  unfold gPeek peekB
  rfl
theorem e_Own {i : Nat} {ok : W → Bool} {o : W → List D → Option (W × W)} {fs : F (List D)} : fOwn i ok o fs ρ = match ρ[i]? with
  | some (.so _ w) => if ok w then (bnd (fs ρ) fun ds ρ1 => match ρ1[i]? with
    | some (.so io w0) => (o w0 ds).map fun p => .ok p.1 (ρ1.set i (.so io p.2))
    | _ => none) else none
  | _ => none := (rfl)
theorem e_IxO {i : Nat} {fb : F D} : fIxO i fb ρ = match ρ[i]? with
  | some (.so _ _) => bnd (fb ρ) fun d ρ1 => match ρ1[i]?, d with
    | some (.so _ (.ls xs)), .int k => (atI xs k).map (.ok · ρ1)
    | _, _ => none
  | _ => none := by
  unfold fIxO
  rfl
@[simp] theorem e_FldO {i : Nat} {cn f : Str} : fFldO i cn f ρ = match ρ[i]? with
  | some (.so _ (.ob c ws)) => if c = cn then ((vas? ws).bind fun ds => ds.lookup f).map (.ok · ρ) else none
  | _ => none := (rfl)
@[simp] theorem e_VarF {i : Nat} : fVarF i ρ = match ρ[i]? with
  | some (.so false w) => some (.ok (frz w) (ρ.set i (.so false (.va (frz w)))))
  | some (.so true (.va d)) => some (.ok d ρ)
  | _ => none := (rfl)
@[simp] theorem e_Mov {i : Nat} : fMov i ρ = match ρ[i]? with
  | some (.so _ (.va d)) => some (.ok (.va d) ρ)
  | some (.so false w) => some (.ok w (ρ.set i .no))
  | _ => none := (rfl)
@[simp] theorem e_tName {i : Nat} {d : D} : tName i d ρ = if i < ρ.length then some (ρ.set i (.so false (.va d))) else none := (rfl)
@[simp] theorem e_runP {n m : Nat} {f : FS} {ds : List D} : runP n m f ds = if ds.length = n then (f fuel (initP m ds)).bind outP else none := (rfl)
@[simp] theorem e_runI {n m : Nat} {f : FS} {w : W} {ds : List D} : runI n m f w ds = if ds.length + 1 = n then (f fuel (initI m w ds)).bind outI else none := (rfl)
@[simp] theorem e_initP {n : Nat} {ds : List D} : initP n ds = ds.map (fun d => .so false (.va d)) ++ List.replicate (n - ds.length) .no := (rfl)
@[simp] theorem e_initI {n : Nat} {w : W} {ds : List D} : initI n w ds = .so true w :: (ds.map (fun d => .so false (.va d)) ++ List.replicate (n - (ds.length + 1)) .no) := (rfl)
@[simp] theorem e_outPr {w : W} {ρ : Rho} : outP (.rt w ρ) = some (.ret w) := (rfl)
@[simp] theorem e_outPn {ρ : Rho} : outP (.nx ρ) = some (.ret (.va .non)) := (rfl)
@[simp] theorem e_outPe {e : Ex} {ρ : Rho} : outP (.ex e ρ) = some (.exc e) := (rfl)
@[simp] theorem e_outIr {w s : W} {ρ : Rho} : outI (.rt w (.so true s :: ρ)) = some (.ret w s) := (rfl)
@[simp] theorem e_outIn {s : W} {ρ : Rho} : outI (.nx (.so true s :: ρ)) = some (.ret (.va .non) s) := (rfl)
@[simp] theorem e_outIe {e : Ex} {s : W} {ρ : Rho} : outI (.ex e (.so true s :: ρ)) = some (.exc e s) := (rfl)
@[simp] theorem e_frzVa {d : D} : frz (.va d) = d := by simp [frz]
@[simp] theorem e_frzLs {ds : List D} : frz (.ls ds) = .lst ds := by simp [frz]
@[simp] theorem e_frzDt {ds : List (List Key × D)} : frz (.dt ds) = .dt ds := by simp [frz]
@[simp] theorem e_bl {b : Bool} : bl? (.bl b) = some b := (rfl)
@[simp] theorem e_int {b : Int} : int? (.int b) = some b := (rfl)
@[simp] theorem e_oLe {i j : Int} : oLe (.int i) (.int j) = some (.bl (decide (i ≤ j))) := (rfl)
@[simp] theorem e_oLt {i j : Int} : oLt (.int i) (.int j) = some (.bl (decide (i < j))) := (rfl)
@[simp] theorem e_oGe {i j : Int} : oGe (.int i) (.int j) = some (.bl (decide (j ≤ i))) := (rfl)
@[simp] theorem e_oGt {i j : Int} : oGt (.int i) (.int j) = some (.bl (decide (j < i))) := (rfl)
@[simp] theorem e_oAdd {i j : Int} : oAdd (.int i) (.int j) = some (.int (i + j)) := (rfl)
@[simp] theorem e_oSub {i j : Int} : oSub (.int i) (.int j) = some (.int (i - j)) := (rfl)
@[simp] theorem e_oNeg {i : Int} : oNeg (.int i) = some (.int (-i)) := (rfl)
@[simp] theorem e_fNo {n : Nat} {ρ : Rho} : fNo n ρ = none := (rfl)
@[simp] theorem e_flat0i {i : Int} : flat0 (.int i) = true := (rfl)
@[simp] theorem e_flat0b {i : Bool} : flat0 (.bl i) = true := (rfl)
@[simp] theorem e_frzSl0 : frzSl .no = .no := (rfl)
@[simp] theorem e_frzSl1 {b : Bool} {w : W} : frzSl (.so b w) = .so false (.va (frz w)) := (rfl)
@[simp] theorem e_tTup {n : Nat} {fr : List D → Rho → Option Rho} {ds : List D} {ρ : Rho} : tTuple n fr (.tup ds) ρ = if ds.length = n then fr ds ρ else none := (rfl)
@[simp] theorem e_tsNil {ρ : Rho} : tsNil [] ρ = some ρ := (rfl)
@[simp] theorem e_tsCons {f : D → Rho → Option Rho} {r : List D → Rho → Option Rho} {d : D} {ds : List D} {ρ : Rho} : tsCons f r (d :: ds) ρ = (f d ρ).bind (r ds) := (rfl)
@[simp] theorem e_isLs {ds : List D} : isLs (.ls ds) = true := (rfl)
@[simp] theorem e_wipe0 {ρ : Rho} : wipeR ρ [] = ρ := (rfl)
@[simp] theorem e_wipe1 {ρ : Rho} {v : Nat} {vs : List Nat} : wipeR ρ (v :: vs) = (wipeR ρ vs).set v .no := (rfl)
@[simp] theorem e_sqLl {xs : List D} : sqL? (.lst xs) = some xs := (rfl)
@[simp] theorem e_sqLx {xs : List D} : sqL? (.xls xs) = some xs := (rfl)
@[simp] theorem e_sqLt {xs : List D} : sqL? (.tup xs) = none := (rfl)
@[simp] theorem e_sqTt {xs : List D} : sqT? (.tup xs) = some xs := (rfl)
@[simp] theorem e_sqTl {xs : List D} : sqT? (.lst xs) = none := (rfl)
@[simp] theorem e_sqt {xs : List D} : sq? (.tup xs) = some xs := (rfl)
@[simp] theorem e_sql {xs : List D} : sq? (.lst xs) = some xs := (rfl)
@[simp] theorem e_sqx {xs : List D} : sq? (.xls xs) = some xs := (rfl)
@[simp] theorem e_itt {xs : List D} : items? (.tup xs) = some xs := (rfl)
@[simp] theorem e_itl {xs : List D} : items? (.lst xs) = some xs := (rfl)
@[simp] theorem e_itx {xs : List D} : items? (.xls xs) = some xs := (rfl)
@[simp] theorem e_enum {d : D} : oEnum [d] = (sqL? d).map (enumD 0) := (rfl)
end
end FL
set_option Elab.async false
set_option linter.all false
set_option maxRecDepth 100000
set_option maxHeartbeats 1000000
/-! E2: rows of integers; loops -/
namespace FL
open PySem PySem.Spec PyProof.Rows L2
def tI (fs : List Int) : D := .tup (fs.map .int)
def lI (fs : List Int) : D := .lst (fs.map .int)
def vD (p : Str × Int) : D := .tup [.str p.1, .int p.2]
def kD2 (kd : List (Str × Int)) : D := .tup (kd.map vD)
def keyI (fs : List Int) : List Key := fs.map .inl
theorem fuel_gt : 2 ^ 32 < fuel := by unfold fuel; decide
section
variable {α β γ : Type}
/-! ### operations on rows of integers -/
theorem intsM : ∀ fs : List Int, ints? (fs.map .int) = some fs
  | [] => rfl
  | x :: xs => by simp [ints?, intsM xs]
theorem blsM : ∀ fs : List Bool, bls? (fs.map .bl) = some fs
  | [] => rfl
  | x :: xs => by simp [bls?, blsM xs]
theorem flatDs_int : ∀ fs : List Int, flatDs (fs.map .int) = some (fs.map V.int)
  | [] => rfl
  | x :: xs => by simp [flatDs, flatD, flatDs_int xs]
theorem keys_map : ∀ fs : List Int, keys? (fs.map .int) = some (keyI fs)
  | [] => rfl
  | x :: xs => by simp [keys?, key?, keyI, keys_map xs]
@[simp] theorem tkey_tI (fs : List Int) : tkey? (tI fs) = some (keyI fs) := keys_map fs
@[simp] theorem sqT_tI (fs : List Int) : sqT? (tI fs) = some (fs.map .int) := (rfl)
@[simp] theorem sqT_lI (fs : List Int) : sqT? (lI fs) = none := (rfl)
@[simp] theorem sqL_tI (fs : List Int) : sqL? (tI fs) = none := (rfl)
@[simp] theorem sqL_lI (fs : List Int) : sqL? (lI fs) = some (fs.map .int) := (rfl)
@[simp] theorem sq_tI (fs : List Int) : sq? (tI fs) = some (fs.map .int) := (rfl)
@[simp] theorem sq_lI (fs : List Int) : sq? (lI fs) = some (fs.map .int) := (rfl)
@[simp] theorem items_tI (fs : List Int) : items? (tI fs) = some (fs.map .int) := (rfl)
@[simp] theorem items_lI (fs : List Int) : items? (lI fs) = some (fs.map .int) := (rfl)
@[simp] theorem len_tI (fs : List Int) : oLen [tI fs] = some (.int fs.length) := by simp [tI, oLen, sq?, sqT?]
@[simp] theorem len_lI (fs : List Int) : oLen [lI fs] = some (.int fs.length) := by simp [lI, oLen, sq?, sqT?, sqL?]
@[simp] theorem list_tI (fs : List Int) : oList [tI fs] = some (fs.map .int) := (rfl)
@[simp] theorem list_lI (fs : List Int) : oList [lI fs] = some (fs.map .int) := (rfl)
@[simp] theorem tuple_lI (fs : List Int) : oTuple [lI fs] = some (tI fs) := (rfl)
@[simp] theorem sum_lI (fs : List Int) : oSum [lI fs] = some (.int fs.sum) := by simp [oSum, oI1, intsM]
@[simp] theorem sumA_tI (fs : List Int) : oSumA [tI fs] = some (.int fs.sum) := by simp [oSumA, oSum, oI1, oSumT, intsM]
@[simp] theorem revT_tI (fs : List Int) : oRevT (tI fs) = some (tI fs.reverse) := by simp [tI, oRevT]
@[simp] theorem isi_tI (fs : List Int) : oIsi [tI fs, .ty "tuple"] = some (.bl true) := (rfl)
@[simp] theorem fold_tI (fs : List Int) : D.tup (fs.map .int) = tI fs := (rfl)
@[simp] theorem fold_lI (fs : List Int) : D.lst (fs.map .int) = lI fs := (rfl)
@[simp] theorem isL_lI (fs : List Int) : isL (lI fs) = true := (rfl)
@[simp] theorem count_lI (fs : List Int) (y : Int) : oCount (lI fs) [.int y] = some (.int (fs.count y : Nat)) := by
  simp only [oCount, sqL_lI, flatD, flatDs_int, Option.bind_some, Option.map_some]
  unfold List.count
  rw [List.countP_map]
  congr 3
theorem all_bl (xs : List α) (b : α → Bool) : oAll [.lst (xs.map fun x => .bl (b x))] = some (.bl (xs.all b)) := by
  have : (xs.map fun x => D.bl (b x)) = (xs.map b).map D.bl := by simp
  rw [this]
  simp only [oAll, oB1, sqL?, Option.bind_some, blsM]
  rw [List.all_map]
  rfl
theorem allM {l : List α} {f g : α → Bool} (h : ∀ x ∈ l, f x = g x) : l.all f = l.all g := by
  induction l with
  | nil => rfl
  | cons x l ih => rw [List.all_cons, List.all_cons, h x List.mem_cons_self, ih fun y hy => h y (List.mem_cons_of_mem _ hy)]
theorem oMul_l {i j : Int} (h1 : -(2 ^ 64) < i) (h2 : i < 2 ^ 64) : oMul (.int i) (.int j) = some (.int (i * j)) := by
  simp only [oMul, oMulI, oInt, if_pos (Or.inl (And.intro h1 h2)), Option.some_or]
theorem oMul_r {i j : Int} (h1 : -(2 ^ 64) < j) (h2 : j < 2 ^ 64) : oMul (.int i) (.int j) = some (.int (i * j)) := by
  simp only [oMul, oMulI, oInt, if_pos (Or.inr (And.intro h1 h2)), Option.some_or]
@[simp] theorem oMul_1 {j : Int} : oMul (.int 1) (.int j) = some (.int j) := by rw [oMul_l (by decide) (by decide), Int.one_mul]
theorem atI_map (f : α → β) (xs : List α) (i : Int) : atI (xs.map f) i = (atI xs i).map f := by
  unfold atI
  rw [List.length_map]
  cases ixN xs.length i <;> simp
theorem atI_nat (xs : List α) (j : Nat) : atI xs (j : Int) = xs[j]? := by
  unfold atI ixN
  rw [if_pos (by omega)]
  split
  · simp
  · rename_i h
    rw [List.getElem?_eq_none (by omega)]
    rfl
theorem atI_last (xs : List α) : atI xs (-1) = xs.getLast? := by
  unfold atI ixN
  rw [if_neg (by decide)]
  cases xs with
  | nil => rfl
  | cons x xs =>
    rw [if_pos (by simp; omega), List.getLast?_eq_getElem?, Option.bind_some]
    congr 1
    simp
    omega
theorem ix_tI (fs : List Int) (j : Nat) (h : j < fs.length) : oIx (tI fs) (.int (j : Int)) = some (.int (at0 fs j)) := by
  simp [oIx, oIxT, atI_map, atI_nat, at0, h]
theorem ix_lI (fs : List Int) (j : Nat) (h : j < fs.length) : oIx (lI fs) (.int (j : Int)) = some (.int (at0 fs j)) := by
  simp [oIx, oIxT, atI_map, atI_nat, at0, h]
/-! ### loops -/
def lcStep (tg : D → Rho → Option Rho) (gt : F Bool) (fe : F D) (vs : List Nat) (x : D) (ρ : Rho) : Option (Option D × Rho) :=
  match tg x (wipeR ρ vs) with
  | none => none
  | some ρ1 => match gt ρ1 with
    | some (.ok true ρ2) => (match fe ρ2 with
      | some (.ok d ρ3) => some (some d, wipeR ρ3 vs)
      | _ => none)
    | some (.ok false ρ2) => some (none, wipeR ρ2 vs)
    | _ => none
theorem lc_map {tg : D → Rho → Option Rho} {gt : F Bool} {fe : F D} {vs : List Nat} {ρ : Rho} (f : γ → D) (g : γ → Option D) : ∀ (xs : List γ) (acc : List D), (∀ x ∈ xs, lcStep tg gt fe vs (f x) ρ = some (g x, ρ)) →
    lcLoop tg gt fe vs (xs.map f) acc ρ = some (acc ++ xs.filterMap g, ρ)
  | [], acc, _ => by simp [lcLoop]
  | x :: xs, acc, h => by
    have h1 := h x List.mem_cons_self
    have ih := fun acc => lc_map f g xs acc fun y hy => h y (List.mem_cons_of_mem _ hy)
    rw [List.map_cons, lcLoop]
    unfold lcStep at h1
    cases q1 : tg (f x) (wipeR ρ vs) with
    | none => rw [q1] at h1; cases h1
    | some ρ1 =>
      rw [q1] at h1
      simp only at h1 ⊢
      cases q2 : gt ρ1 with
      | none => rw [q2] at h1; cases h1
      | some r =>
        rw [q2] at h1
        cases r with
        | ex e ρ2 => cases h1
        | ok b ρ2 =>
          cases b with
          | true =>
            simp only at h1 ⊢
            cases q3 : fe ρ2 with
            | none => rw [q3] at h1; cases h1
            | some r3 =>
              rw [q3] at h1
              cases r3 with
              | ex e ρ3 => cases h1
              | ok d ρ3 =>
                simp only at h1 ⊢
                injection h1 with h1
                injection h1 with e1 e2
                rw [e2, ih]
                simp [← e1]
          | false =>
            simp only at h1 ⊢
            injection h1 with h1
            injection h1 with e1 e2
            rw [e2, ih]
            simp [← e1]
theorem lc_map1 {tg : D → Rho → Option Rho} {gt : F Bool} {fe : F D} {vs : List Nat} {ρ : Rho} (f : γ → D) (g : γ → D) (xs : List γ) (h : ∀ x ∈ xs, lcStep tg gt fe vs (f x) ρ = some (some (g x), ρ)) :
    lcLoop tg gt fe vs (xs.map f) [] ρ = some (xs.map g, ρ) := by
  rw [lc_map f (fun x => some (g x)) xs [] h]
  simp
theorem for_inv {S : Type} {tg : D → Rho → Option Rho} {body : FS} {n : Nat} (Inv : S → Rho → Prop) (g : S → γ → S) (f : γ → D) : ∀ (xs : List γ) (s : S) (ρ : Rho),
    (∀ s x ρ, x ∈ xs → Inv s ρ → ∃ ρ1 ρ2, tg (f x) ρ = some ρ1 ∧ body n ρ1 = some (.nx ρ2) ∧ Inv (g s x) ρ2) → Inv s ρ → ∃ ρ', forL tg body (xs.map f) n ρ = some (.nx ρ') ∧ Inv (xs.foldl g s) ρ'
  | [], s, ρ, _, h => ⟨ρ, by simp [forL], by simpa using h⟩
  | x :: xs, s, ρ, st, h => by
    obtain ⟨ρ1, ρ2, h1, h2, h3⟩ := st s x ρ List.mem_cons_self h
    obtain ⟨ρ', h4, h5⟩ := for_inv Inv g f xs (g s x) ρ2 (fun s y ρ hy => st s y ρ (List.mem_cons_of_mem _ hy)) h3
    refine ⟨ρ', ?_, by simpa using h5⟩
    rw [List.map_cons, forL, h1]
    simp only [h2]
    exact h4
theorem while_inv {c : F Bool} {body : FS} (Inv : Nat → Rho → Prop) : ∀ (m n i : Nat) (ρ : Rho), m < n →
    (∀ j ρ, i ≤ j → j < i + m → Inv j ρ → ∃ ρ1, c ρ = some (.ok true ρ1) ∧ ∀ n, ∃ ρ2, body n ρ1 = some (.nx ρ2) ∧ Inv (j + 1) ρ2) → Inv i ρ →
    ∃ ρ', Inv (i + m) ρ' ∧ ∀ ρ2, c ρ' = some (.ok false ρ2) → whileF c body n ρ = some (.nx ρ2)
  | 0, n + 1, i, ρ, _, _, h => ⟨ρ, h, fun ρ2 e => by rw [whileF, e]⟩
  | m + 1, n + 1, i, ρ, hm, st, h => by
    obtain ⟨ρ1, h1, h2⟩ := st i ρ (Nat.le_refl _) (by omega) h
    obtain ⟨ρ2, h3, h4⟩ := h2 n
    obtain ⟨ρ', h5, h6⟩ := while_inv Inv m n (i + 1) ρ2 (by omega) (fun j ρ a b => st j ρ (by omega) (by omega)) h4
    refine ⟨ρ', by rw [show i + (m + 1) = i + 1 + m by omega]; exact h5, fun ρ3 e => ?_⟩
    rw [whileF, h1]
    simp only [h3]
    exact h6 ρ3 e
end
end FL
set_option Elab.async false
set_option linter.all false
set_option maxRecDepth 100000
set_option maxHeartbeats 1000000
/-! E3: the program's functions, computed -/
namespace FL
open PySem PySem.Spec PyProof.Rows L2
theorem isi_int_int (i : Int) : oIsi [.int i, .ty "int"] = some (.bl true) := rfl
theorem kit_ib : kitB "int" "bool" = some false := by decide +kernel
theorem isi_int_bool (i : Int) : oIsi [.int i, .ty "bool"] = some (.bl false) := by
  show (kitB "int" "bool").map D.bl = _
  rw [kit_ib]
  rfl
theorem F_is_integer_eq (i : Int) : F_is_integer [.int i] = some (.ret (.va (.bl true))) := by
  simp [F_is_integer, f_is_integer, isi_int_int, isi_int_bool]
theorem F_factor_at_in (fs : List Int) (j : Nat) (h : j < fs.length) : F_factor_at [tI fs, .int j] = some (.ret (.va (.int (at0 fs j)))) := by
  simp [F_factor_at, f_factor_at, h, ix_tI]
theorem F_factor_at_out (fs : List Int) (j : Nat) (h : fs.length ≤ j) : F_factor_at [tI fs, .int j] = some (.ret (.va (.int (at0 fs j)))) := by
  simp [F_factor_at, f_factor_at, at0_ge h, Nat.not_lt.mpr h]
theorem F_factor_at_eq (fs : List Int) (j : Nat) : F_factor_at [tI fs, .int j] = some (.ret (.va (.int (at0 fs j)))) := by
  by_cases h : j < fs.length
  · exact F_factor_at_in fs j h
  · exact F_factor_at_out fs j (by omega)
def parts (kd : List (Str × Int)) : List Int := kd.map (·.2)
def degs (kd : List (Str × Int)) (k : Int) : List Int := kd.map fun p => k - 1 + p.2
theorem F_degrees_of_eq (kd : List (Str × Int)) (k : Int) (h : kd.length ≤ sizeLine) : F_degrees_of [kD2 kd, .int k] = some (.ret (.ls ((degs kd k).map .int))) := by
  simp [F_degrees_of, f_degrees_of, kD2, items?, sq?, sqT?, h]
  rw [lc_map1 vD (fun p => .int (k - 1 + p.2))]
  · simp [degs]
  · intro x hx
    simp [lcStep, vD]
theorem F_are_open_numbers_eq (fs : List Int) (k : Nat) (hk : 1 ≤ k) : F_are_open_numbers [tI fs, .tup [.int k, .int 1]] = some (.ret (.va (.bl (canOpen fs k)))) := by
  have : (1 : Int) ≤ k := by omega
  simp [F_are_open_numbers, f_are_open_numbers, F_factor_at_eq, this, canOpen]
theorem count_deg (kd : List (Str × Int)) (k : Int) (p : Int) : (degs kd k).count (k - 1 + p) = (parts kd).count p := by
  unfold parts degs List.count
  rw [List.countP_map, List.countP_map]
  refine List.countP_congr fun q _ => ?_
  simp
theorem F_are_close_numbers_eq (kd : List (Str × Int)) (fs : List Int) (k : Nat) (hk : 1 ≤ k) (hp : ∀ p ∈ parts kd, 0 ≤ p ∧ p ≤ 4) (hl : kd.length ≤ 100) :
    F_are_close_numbers [kD2 kd, tI fs, .tup [.int k, .int 1]] = some (.ret (.va (.bl (canClose (parts kd) fs k)))) := by
  have : ¬(k : Int) < 1 := by omega
  have h2 : kd.length ≤ sizeLine := by unfold sizeLine; omega
  have h3 : (degs kd k).length ≤ sizeLine := by simpa [degs] using h2
  simp [F_are_close_numbers, f_are_close_numbers, F_degrees_of_eq, this, h2, h3]
  rw [lc_map1 (g := fun d : Int => D.bl (decide ((((degs kd k).count d : Nat) : Int) ≤ at0 fs d.toNat)))]
  · simp [all_bl]
    unfold canClose parts degs
    rw [List.all_map, List.all_map]
    refine allM fun p hpm => ?_
    have := hp p.2 (by unfold parts; exact List.mem_map_of_mem hpm)
    have := count_deg kd k p.2
    unfold degs parts at this
    simp only [Function.comp, this]
    congr 3
    omega
  · intro x hx
    have : 0 ≤ x := by
      simp [degs] at hx
      obtain ⟨a, b, h, rfl⟩ := hx
      have := hp b (by unfold parts; exact List.mem_map.mpr ⟨(a, b), h, rfl⟩)
      omega
    obtain ⟨j, rfl⟩ := Int.eq_ofNat_of_zero_le this
    simp [lcStep, F_factor_at_eq]
end FL
set_option Elab.async false
set_option linter.all false
set_option maxRecDepth 100000
set_option maxHeartbeats 1000000
/-! E4: comparisons; steps -/
namespace FL
open PySem PySem.Spec PyProof.Rows L2
theorem shaped_int (a : Int) : SeqAt.shaped (.int a) = true := by simp [SeqAt.shaped, PyData.canLay0, PyData.depth]
@[simp] theorem e_oNeI {a b : Int} : oNe (.int a) (.int b) = some (.bl (!decide (a = b))) := by
  simp [oNe, toPy, shaped_int, PyData.eqv, BEq.beq]
@[simp] theorem e_oEqI {a b : Int} : oEq (.int a) (.int b) = some (.bl (decide (a = b))) := by
  simp [oEq, toPy, shaped_int, PyData.eqv, BEq.beq]
theorem eqS_oo : oEq (.str "open") (.str "open") = some (.bl true) := by kernel_rfl
theorem eqS_co : oEq (.str "close") (.str "open") = some (.bl false) := by kernel_rfl
theorem eqS_cc : oEq (.str "close") (.str "close") = some (.bl true) := by kernel_rfl
theorem len3 (a b c : D) : oLen [.tup [a, b, c]] = some (.int 3) := (by rfl)
theorem ix30 (a b c : D) : oIx (.tup [a, b, c]) (.int 0) = some a := (by rfl)
theorem ix31 (a b c : D) : oIx (.tup [a, b, c]) (.int 1) = some b := (by rfl)
theorem ix32 (a b c : D) : oIx (.tup [a, b, c]) (.int 2) = some c := (by rfl)
theorem sl3 (a b c : D) : oSlT (.tup [a, b, c]) (some 1) none = some (.tup [b, c]) := (by rfl)
theorem isi_tup (xs : List D) : oIsi [.tup xs, .ty "tuple"] = some (.bl true) := (by rfl)
theorem isi_str (s : Str) : oIsi [.str s, .ty "str"] = some (.bl true) := (by rfl)
theorem tin_o : oTIn true "LENGTHS" tab_LENGTHS (.str "open") (.cls "LENGTHS") = some (.bl false) := (by rfl)
theorem tin_c : oTIn true "LENGTHS" tab_LENGTHS (.str "close") (.cls "LENGTHS") = some (.bl false) := (by rfl)
theorem tix_o : oTIx "LENGTHS" tab_LENGTHS (.cls "LENGTHS") (.str "open") = some (.int 3) := (by rfl)
theorem tix_c : oTIx "LENGTHS" tab_LENGTHS (.cls "LENGTHS") (.str "close") = some (.int 3) := (by rfl)
theorem F_are_numbers_o (kd : List (Str × Int)) (fs : List Int) (k : Nat) (hk : 1 ≤ k) : F_are_numbers [kD2 kd, tI fs, .str "open", .tup [.int k, .int 1]] = some (.ret (.va (.bl (canOpen fs k)))) := by
  simp [F_are_numbers, f_are_numbers, eqS_oo, F_are_open_numbers_eq, hk]
theorem F_are_numbers_c (kd : List (Str × Int)) (fs : List Int) (k : Nat) (hk : 1 ≤ k) (hp : ∀ p ∈ parts kd, 0 ≤ p ∧ p ≤ 4) (hl : kd.length ≤ 100) :
    F_are_numbers [kD2 kd, tI fs, .str "close", .tup [.int k, .int 1]] = some (.ret (.va (.bl (canClose (parts kd) fs k)))) := by
  simp [F_are_numbers, f_are_numbers, eqS_co, eqS_cc, F_are_close_numbers_eq kd fs k hk hp hl]
def stepD (s : Str) (k : Nat) : D := .tup [.str s, .int k, .int 1]
theorem alltt : oAll [.lst [.bl true, .bl true]] = some (.bl true) := (by rfl)
theorem F_is_step_at_gen (kd : List (Str × Int)) (fs : List Int) (k : Nat) (s : Str) (h1 : oTIn true "LENGTHS" tab_LENGTHS (.str s) (.cls "LENGTHS") = some (.bl false)) (h2 : oTIx "LENGTHS" tab_LENGTHS (.cls "LENGTHS") (.str s) = some (.int 3))
    (b : Bool) (h3 : F_are_numbers [kD2 kd, tI fs, .str s, .tup [.int k, .int 1]] = some (.ret (.va (.bl b)))) : F_is_step_at [kD2 kd, tI fs, stepD s k] = some (.ret (.va (.bl b))) := by
  simp [F_is_step_at, f_is_step_at, stepD, isi_tup, len3, ix30, isi_str, h1, h2, sl3, items?, sq?, sqT?, lcLoop, F_is_integer_eq, sizeLine, h3, alltt]
theorem F_is_step_at_o (kd : List (Str × Int)) (fs : List Int) (k : Nat) (hk : 1 ≤ k) : F_is_step_at [kD2 kd, tI fs, stepD "open" k] = some (.ret (.va (.bl (canOpen fs k)))) :=
  F_is_step_at_gen kd fs k _ tin_o tix_o _ (F_are_numbers_o kd fs k hk)
theorem F_is_step_at_c (kd : List (Str × Int)) (fs : List Int) (k : Nat) (hk : 1 ≤ k) (hp : ∀ p ∈ parts kd, 0 ≤ p ∧ p ≤ 4) (hl : kd.length ≤ 100) : F_is_step_at [kD2 kd, tI fs, stepD "close" k] = some (.ret (.va (.bl (canClose (parts kd) fs k)))) :=
  F_is_step_at_gen kd fs k _ tin_c tix_c _ (F_are_numbers_c kd fs k hk hp hl)
/-! ### comparisons of rows -/
theorem toPys_int : ∀ l : List Int, toPys (l.map .int) = some (l.map PyData.int)
  | [] => rfl
  | x :: xs => by simp [toPys, toPy, toPys_int xs]
theorem lay_int : ∀ l : List Int, PyData.canLayAll0 (l.map PyData.int) = true
  | [] => rfl
  | x :: xs => by simp [PyData.canLayAll0, PyData.canLay0, lay_int xs]
theorem dep_int : ∀ l : List Int, PyData.depthAll (l.map PyData.int) = 0
  | [] => rfl
  | x :: xs => by simp [PyData.depthAll, PyData.depth, dep_int xs]
theorem toPy_tI (l : List Int) : toPy (tI l) = some (.tuple (l.map .int)) := by simp only [tI, toPy, toPys_int, Option.map_some]
theorem toPy_lI (l : List Int) : toPy (lI l) = some (.list (l.map .int)) := by simp only [lI, toPy, toPys_int, Option.map_some]
theorem shaped_tI (l : List Int) : SeqAt.shaped (.tuple (l.map .int)) = true := by simp [SeqAt.shaped, PyData.canLay0, PyData.depth, lay_int, dep_int]
theorem shaped_lI (l : List Int) : SeqAt.shaped (.list (l.map .int)) = true := by simp [SeqAt.shaped, PyData.canLay0, PyData.depth, lay_int, dep_int]
theorem eqv_int : ∀ a b : List Int, PyData.eqvAll (a.map .int) (b.map .int) = decide (a = b)
  | [], [] => rfl
  | [], _ :: _ => by simp [PyData.eqvAll]
  | _ :: _, [] => by simp [PyData.eqvAll]
  | x :: xs, y :: ys => by
    simp only [List.map_cons, PyData.eqvAll, PyData.eqv, eqv_int xs ys]
    by_cases h : x = y <;> by_cases h2 : xs = ys <;> simp [h, h2]
@[simp] theorem ne_lI (a b : List Int) : oNe (lI a) (lI b) = some (.bl (!decide (a = b))) := by
  simp only [oNe, toPy_lI, shaped_lI, and_self, if_true, PyData.eqv, eqv_int]
@[simp] theorem eq_lI (a b : List Int) : oEq (lI a) (lI b) = some (.bl (decide (a = b))) := by
  simp only [oEq, toPy_lI, shaped_lI, and_self, if_true, PyData.eqv, eqv_int]
@[simp] theorem ne_lInil (a : List Int) : oNe (lI a) (.lst []) = some (.bl (!decide (a = []))) := ne_lI a []
@[simp] theorem eq_lInil (a : List Int) : oEq (lI a) (.lst []) = some (.bl (decide (a = []))) := eq_lI a []
@[simp] theorem eq_tI (a b : List Int) : oEq (tI a) (tI b) = some (.bl (decide (a = b))) := by
  simp only [oEq, toPy_tI, shaped_tI, and_self, if_true, PyData.eqv, eqv_int]
/-! ### trimmed -/
@[simp] theorem ne_nil : oNe (.lst []) (.lst []) = some (.bl false) := ne_lI [] []
@[simp] theorem eq_nil : oEq (.lst []) (.lst []) = some (.bl true) := eq_lI [] []
theorem pop_int (l : List Int) (x : Int) (h : l.getLast? = some x) : oPop (.ls (l.map .int)) [] = some (.va (.int x), .ls (l.dropLast.map .int)) := by
  have : (l.map D.int)[(l.map D.int).length - 1]? = some (.int x) := by
    rw [← List.getLast?_eq_getElem?, List.getLast?_map, h]
    rfl
  simp only [oPop, this, List.map_dropLast]
theorem trim_last {l : List Int} {x : Int} (h : l.getLast? = some x) : trim l = if x = 0 then trim l.dropLast else l := by
  have e : l = l.dropLast ++ [x] := by
    have ne : l ≠ [] := by rintro rfl; simp at h
    have h2 := List.dropLast_concat_getLast ne
    have h3 : l.getLast ne = x := by
      rw [List.getLast?_eq_some_getLast ne] at h
      exact Option.some.inj h
    rw [h3] at h2
    exact h2.symm
  split
  · rename_i q
    subst q
    conv => lhs; rw [e]
    exact trim_snoc0 _
  · rename_i q
    conv => lhs; rw [e]
    rw [trim_snoc q, ← e]
theorem while_trim (c : F Bool) (b : FS) (hc : c = gAnd (gPeek (fT (fOp oNe (fVarF 1) (fFrz (fLst aNil))))) (fT (fOp oEq (fIxO 1 (fU oNeg (fC (.int 1)))) (fC (.int 0))))) (hb : b = fDrop (fOwn 1 isLs oPop aNil)) :
    ∀ (m n : Nat) (l : List Int) (s : Sl), l.length = m → m < n → whileF c b n [s, .so false (.ls (l.map .int))] = some (.nx [s, .so false (.ls ((trim l).map .int))])
  | m, 0, l, s, _, hn => absurd hn (Nat.not_lt_zero _)
  | m, n + 1, l, s, hm, hn => by
    cases q : l.getLast? with
    | none =>
      rw [List.getLast?_eq_none_iff] at q
      subst q
      have : c [s, .so false (.ls [])] = some (.ok false [s, .so false (.ls [])]) := by simp [hc]
      simp [whileF, this, trim]
    | some x =>
      have ne : l ≠ [] := by rintro rfl; simp at q
      have h1 : c [s, .so false (.ls (l.map .int))] = some (.ok (decide (x = 0)) [s, .so false (.ls (l.map .int))]) := by simp [hc, ne, e_IxO, atI_map, atI_last, q]
      rw [whileF, h1, trim_last q]
      by_cases z : x = 0
      · have h2 : b n [s, .so false (.ls (l.map .int))] = some (.nx [s, .so false (.ls (l.dropLast.map .int))]) := by simp [hb, e_Own, pop_int l x q]
        simp only [z, decide_true, if_true, h2]
        refine while_trim c b hc hb (m - 1) n l.dropLast s (by simp [hm]) ?_
        have := List.length_pos_iff.mpr ne
        omega
      · simp [z]
theorem F_trimmed_lI (l : List Int) (h : l.length < 2 ^ 32) : F_trimmed [lI l] = some (.ret (.va (tI (trim l)))) := by
  have := fuel_gt
  simp [F_trimmed, f_trimmed]
  rw [while_trim _ _ rfl rfl l.length _ l _ rfl (by omega)]
  simp
theorem F_trimmed_tI (l : List Int) (h : l.length < 2 ^ 32) : F_trimmed [tI l] = some (.ret (.va (tI (trim l)))) := by
  have := fuel_gt
  simp [F_trimmed, f_trimmed]
  rw [while_trim _ _ rfl rfl l.length _ l _ rfl (by omega)]
  simp
end FL
set_option Elab.async false
set_option linter.all false
set_option maxRecDepth 100000
set_option maxHeartbeats 1000000
/-! E5: the layout behind a step; kinds; layouts -/
namespace FL
open PySem PySem.Spec PyProof.Rows L2
def pD (q : Int × Int) : D := .tup [.int q.1, .int q.2]
def addS (ps : List (Int × Int)) (j : Int) : Int := ((ps.filter fun q => q.1 == j).map (·.2)).sum
theorem fm_int (ps : List (Int × Int)) (j : Int) : ps.filterMap (fun q => if q.1 = j then some (D.int q.2) else none) = ((ps.filter fun q => q.1 == j).map (·.2)).map D.int := by
  induction ps with
  | nil => rfl
  | cons q ps ih =>
    by_cases h : q.1 = j
    · simp [h, ih]
    · simp [h, ih]
theorem enum_range' (h : Nat → D) : ∀ n s : Nat, enumD s ((List.range' s n).map h) = (List.range' s n).map fun (j : Nat) => D.tup [.int (j : Int), h j]
  | 0, s => rfl
  | n + 1, s => by
    rw [List.range'_succ]
    simp only [List.map_cons, enumD, enum_range' h n (s + 1)]
theorem enum_range (h : Nat → D) (n : Nat) : enumD 0 ((List.range n).map h) = (List.range n).map fun (j : Nat) => D.tup [.int (j : Int), h j] := by
  rw [List.range_eq_range']
  exact enum_range' h n 0
theorem rangeD_0 (m : Nat) : rangeD 0 (m : Int) = (List.range m).map fun n => D.int (n : Nat) := by
  unfold rangeD
  simp
@[simp] theorem add_lI (a b : List Int) (h : a.length + b.length ≤ sizeLine) : oAdd (lI a) (lI b) = some (lI (a ++ b)) := by
  simp only [oAdd, lI, oAddI, oInt, oAddS, oCatT, oCat, List.length_map, if_pos h, Option.none_or, Option.map_some, List.map_append]
theorem le_sz {n : Nat} (h : n ≤ 10000000) : n ≤ sizeLine := Nat.le_trans h (by decide)
@[simp] theorem fold_lIc {γ : Type} (f : γ → Int) (xs : List γ) : D.lst (xs.map (D.int ∘ f)) = lI (xs.map f) := by unfold lI; rw [List.map_map]
@[simp] theorem fold_lIf {γ : Type} (f : γ → Int) (xs : List γ) : D.lst (xs.map fun x => D.int (f x)) = lI (xs.map f) := by unfold lI; rw [List.map_map]; rfl
theorem szl0 : 0 ≤ sizeLine := Nat.zero_le _
theorem sz1 : 1 ≤ sizeLine := by decide
theorem sz2 : 2 ≤ sizeLine := by decide
theorem sz3 : 3 ≤ sizeLine := by decide
theorem sz4 : 4 ≤ sizeLine := by decide
theorem p62 : (2 : Int) ^ 62 = 4611686018427387904 := by decide +kernel
theorem oRange1_nat (m : Nat) (h : m ≤ 1000000000) : oRange1 [.int m] = some (rangeD 0 m) := by
  unfold oRange1
  simp only [p62]
  rw [if_pos ⟨by omega, by omega⟩]
theorem oRange2_nat (k m : Nat) (h : m ≤ 1000000000) (h2 : k ≤ 1000000000) : oRange2 [.int k, .int m] = some (rangeD k m) := by
  unfold oRange2
  simp only [p62]
  rw [if_pos ⟨by omega, by omega, by omega, by omega⟩]
@[simp] theorem fold_l1 (x : Int) : D.lst [.int x] = lI [x] := rfl
theorem max_lI (a : List Int) : oMax [lI a] = a.max?.map .int := by
  simp only [oMax, oMax2, lI, oMaxL, oI1, sqL?, Option.bind_some, intsM, Option.none_or]
theorem max_cons (x : Int) (l : List Int) : ∃ m, (x :: l).max? = some m ∧ x ≤ m ∧ (∀ y ∈ l, y ≤ m) ∧ (m = x ∨ m ∈ l) := by
  cases q : (x :: l).max? with
  | none => simp at q
  | some m =>
    rw [List.max?_eq_some_iff] at q
    exact ⟨m, rfl, q.2 x List.mem_cons_self, fun y hy => q.2 y (List.mem_cons_of_mem _ hy), by simpa using q.1⟩
theorem F_changed_eq (fs : List Int) (ps : List (Int × Int)) (h1 : fs.length ≤ 1000) (h2 : ps.length ≤ 1000) (h3 : ∀ q ∈ ps, 0 ≤ q.1 ∧ q.1 ≤ 1000) :
    ∃ m : Nat, fs.length ≤ m ∧ (∀ q ∈ ps, q.1 < m) ∧ F_changed [tI fs, .lst (ps.map pD)] = some (.ret (.va (tI (trim ((List.range m).map fun j => at0 fs j + addS ps j))))) := by
  obtain ⟨m', e, a, b, c⟩ := max_cons (fs.length : Int) (ps.map fun q => q.1 + 1)
  have hm : 0 ≤ m' := by omega
  obtain ⟨m, rfl⟩ := Int.eq_ofNat_of_zero_le hm
  have mb : m ≤ 1001 := by
    rcases c with c | c
    · omega
    · obtain ⟨q, hq, h⟩ := List.mem_map.mp c
      have := h3 q hq
      omega
  refine ⟨m, by omega, fun q hq => by have := b (q.1 + 1) (List.mem_map_of_mem (f := fun q : Int × Int => q.1 + 1) hq); omega, ?_⟩
  have l1 : (List.map (fun q : Int × Int => q.1 + 1) ps).length ≤ 1000 := by simpa using h2
  have sz : ps.length ≤ sizeLine := le_sz (by omega)
  have sz2 : m ≤ sizeLine := le_sz (by omega)
  have ad : oAdd (lI [(fs.length : Int)]) (lI (ps.map fun q => q.1 + 1)) = some (lI ((fs.length : Int) :: ps.map fun q => q.1 + 1)) := add_lI _ _ (le_sz (by simp; omega))
  have rg := oRange1_nat m (by omega)
  have mx : oMax [lI ((fs.length : Int) :: ps.map fun q => q.1 + 1)] = some (.int m) := by rw [max_lI, e]; rfl
  clear e
  simp [F_changed, f_changed, sz1, sz]
  rw [lc_map1 pD (fun q => .int (q.1 + 1))]
  · simp [ad, mx, rg, rangeD_0, sz2]
    rw [lc_map1 (fun n : Nat => D.int n) (fun n : Nat => .int (addS ps n))]
    · simp [enum_range, sz2]
      rw [lc_map1 (fun n : Nat => D.tup [.int n, .int (addS ps n)]) (fun n : Nat => .int (at0 fs n + addS ps n))]
      · simp
        rw [F_trimmed_lI _ (by rw [List.length_map, List.length_range]; omega)]
        simp
      · intro n hn
        simp [lcStep, F_factor_at_eq]
    · intro n hn
      simp [lcStep, sz]
      rw [lc_map pD (fun q => if q.1 = (n : Int) then some (D.int q.2) else none)]
      · rw [fm_int]
        simp [addS]
      · intro q hq
        by_cases h : q.1 = (n : Int) <;> simp [lcStep, pD, h]
  · intro q hq
    simp [lcStep, pD]
end FL
set_option Elab.async false
set_option linter.all false
set_option maxRecDepth 100000
set_option maxHeartbeats 1000000
/-! E6: the layout behind a step, within bounds; kinds; layouts -/
namespace FL
open PySem PySem.Spec PyProof.Rows L2
theorem add_lst (a b : List D) (h : a.length + b.length ≤ sizeLine) : oAdd (.lst a) (.lst b) = some (.lst (a ++ b)) := by
  simp only [oAdd, oAddI, oInt, oAddS, oCatT, oCat, if_pos h, Option.none_or, Option.map_some]
theorem addS_cons (q : Int × Int) (ps : List (Int × Int)) (j : Int) : addS (q :: ps) j = (if q.1 = j then q.2 else 0) + addS ps j := by
  unfold addS
  by_cases h : q.1 = j <;> simp [h]
theorem addS_map (c : Int) (j : Int) : ∀ ds : List Int, addS (ds.map fun d => (d, c)) j = c * (ds.count j : Nat)
  | [] => by simp [addS]
  | d :: ds => by
    rw [List.map_cons, addS_cons, addS_map c j ds, List.count_cons]
    by_cases h : d = j
    · subst h
      simp only [if_true, beq_self_eq_true]
      rw [show (((ds.count d + 1 : Nat)) : Int) = (ds.count d : Nat) + 1 by omega, Int.mul_add]
      omega
    · simp [h]
theorem cnt_deg (kd : List (Str × Int)) (k j : Nat) : (((degs kd k).count (j : Int) : Nat) : Int) = cntP (parts kd) k j := by
  unfold degs parts cntP List.count
  rw [List.countP_map, List.countP_map]
  congr 1
theorem stp_of (kd : List (Str × Int)) (fs : List Int) (k : Nat) (c : Int) (m : Nat) (hp : ∀ p ∈ parts kd, 0 ≤ p ∧ p ≤ 4) (h1 : fs.length ≤ m) (h2 : ∀ q ∈ ((k : Int), -c) :: (degs kd k).map (fun d => (d, c)), q.1 < m) :
    trim ((List.range m).map fun j : Nat => at0 fs j + addS (((k : Int), -c) :: (degs kd k).map (fun d => (d, c))) j) = stp (parts kd) fs k c := by
  rw [← stp_trim]
  refine trim_ext fun j => ?_
  rw [at0_stp hp, at0_range, addS_cons, addS_map, cnt_deg]
  have hk := h2 _ List.mem_cons_self
  simp only at hk
  by_cases hj : j < m
  · rw [if_pos hj]
    by_cases e : j = k
    · subst e
      simp only [if_true]
      rw [Int.mul_sub]
      omega
    · rw [if_neg (by omega), if_neg e, Int.mul_sub]
      omega
  · rw [if_neg hj, at0_ge (by omega), if_neg (by omega), cntP_zero]
    · simp
    · intro p hp' e
      unfold parts at hp'
      obtain ⟨q, hq, rfl⟩ := List.mem_map.mp hp'
      have := h2 (k - 1 + q.2, c) (List.mem_cons_of_mem _ (List.mem_map.mpr ⟨k - 1 + q.2, by unfold degs; exact List.mem_map.mpr ⟨q, hq, rfl⟩, rfl⟩))
      simp only at this
      omega
theorem degs_bound {kd : List (Str × Int)} {k : Nat} (hk : 1 ≤ k) (hk2 : k ≤ 100) (hp : ∀ p ∈ parts kd, 0 ≤ p ∧ p ≤ 4) : ∀ d ∈ degs kd k, 0 ≤ d ∧ d ≤ 200 := by
  intro d hd
  unfold degs at hd
  obtain ⟨q, hq, rfl⟩ := List.mem_map.mp hd
  have := hp q.2 (by unfold parts; exact List.mem_map_of_mem hq)
  omega
theorem pairs_eq (k : Nat) (c : Int) (ds : List Int) : D.tup [.int k, .int (-c)] :: ds.map (fun d => D.tup [.int d, .int c]) = (((k : Int), -c) :: ds.map (fun d => (d, c))).map pD := by
  simp [pD, Function.comp_def]
theorem F_changed_step (kd : List (Str × Int)) (fs : List Int) (k : Nat) (c : Int) (hk : 1 ≤ k) (hk2 : k ≤ 100) (hl : kd.length ≤ 100) (hf : fs.length ≤ 1000) (hp : ∀ p ∈ parts kd, 0 ≤ p ∧ p ≤ 4) :
    F_changed [tI fs, .lst (D.tup [.int k, .int (-c)] :: (degs kd k).map (fun d => D.tup [.int d, .int c]))] = some (.ret (.va (tI (stp (parts kd) fs k c)))) := by
  rw [pairs_eq]
  obtain ⟨m, h1, h2, h3⟩ := F_changed_eq fs (((k : Int), -c) :: (degs kd k).map (fun d => (d, c))) hf (by simp [degs]; omega) (by
    intro q hq
    rcases List.mem_cons.mp hq with rfl | hq
    · simp only; omega
    · obtain ⟨d, hd, rfl⟩ := List.mem_map.mp hq
      have := degs_bound hk hk2 hp d hd
      simp only
      omega)
  rw [h3, stp_of kd fs k c m hp h1 h2]
theorem F_factors_behind_o (kd : List (Str × Int)) (fs : List Int) (k : Nat) (hk : 1 ≤ k) (hk2 : k ≤ 100) (hl : kd.length ≤ 100) (hf : fs.length ≤ 1000) (hp : ∀ p ∈ parts kd, 0 ≤ p ∧ p ≤ 4) :
    F_factors_behind [kD2 kd, tI fs, stepD "open" k] = some (.ret (.va (tI (stp (parts kd) fs k 1)))) := by
  have c := F_changed_step kd fs k 1 hk hk2 hl hf hp
  have h1 : kd.length ≤ sizeLine := le_sz (by omega)
  have h2 : (degs kd k).length ≤ sizeLine := le_sz (by simp [degs]; omega)
  simp [F_factors_behind, f_factors_behind, stepD, ix30, ix31, ix32, eqS_oo, sz2, sz1, F_degrees_of_eq _ _ h1, h2]
  rw [lc_map1 (fun d : Int => D.int d) (fun d => D.tup [.int d, .int 1])]
  · simp
    rw [add_lst _ _ (le_sz (by simp [degs]; omega))]
    simp [c]
  · intro x hx
    simp [lcStep, sz2, ix32]
theorem F_factors_behind_c (kd : List (Str × Int)) (fs : List Int) (k : Nat) (hk : 1 ≤ k) (hk2 : k ≤ 100) (hl : kd.length ≤ 100) (hf : fs.length ≤ 1000) (hp : ∀ p ∈ parts kd, 0 ≤ p ∧ p ≤ 4) :
    F_factors_behind [kD2 kd, tI fs, stepD "close" k] = some (.ret (.va (tI (stp (parts kd) fs k (-1))))) := by
  have c := F_changed_step kd fs k (-1) hk hk2 hl hf hp
  have h1 : kd.length ≤ sizeLine := le_sz (by omega)
  have h2 : (degs kd k).length ≤ sizeLine := le_sz (by simp [degs]; omega)
  simp at c
  simp [F_factors_behind, f_factors_behind, stepD, ix30, ix31, ix32, eqS_co, eqS_cc, sz2, sz1, F_degrees_of_eq _ _ h1, h2]
  rw [lc_map1 (fun d : Int => D.int d) (fun d => D.tup [.int d, .int (-1)])]
  · simp
    rw [add_lst _ _ (le_sz (by simp [degs]; omega))]
    simp [c]
  · intro x hx
    simp [lcStep, sz2, ix32]
theorem F_are_within_eq (fs : List Int) (P D : Nat) : F_are_within [tI fs, .int P, .int D] = some (.ret (.va (.bl (within P D fs)))) := by
  by_cases h : fs.length ≤ D + 1
  · have h' : (fs.length : Int) ≤ D + 1 := by omega
    simp [F_are_within, f_are_within, within, h, h']
  · have h' : ¬(fs.length : Int) ≤ D + 1 := by omega
    simp [F_are_within, f_are_within, within, h, h']
end FL
set_option Elab.async false
set_option linter.all false
set_option maxRecDepth 100000
set_option maxHeartbeats 1000000
/-! E7: kinds; layouts; bounds -/
namespace FL
open PySem PySem.Spec PyProof.Rows L2
def tagsL : List Str := ["leaf", "join", "a", "z9", "node", "b2b", "tip", "eightabc"]
structure GoodK (kd : List (Str × Int)) : Prop where
  two : 2 ≤ kd.length
  eight : kd.length ≤ 8
  tags : ∀ p ∈ kd, p.1 ∈ tagsL
  nd : (kd.map (·.1)).Nodup
  ps : ∀ p ∈ parts kd, 0 ≤ p ∧ p ≤ 4
  z : (0 : Int) ∈ parts kd
  t : ∃ p ∈ parts kd, 2 ≤ p
def yesP : Option RP → Bool
  | some (.ret (.va (.bl true))) => true
  | _ => false
theorem yesP_eq {x : Option RP} (h : yesP x = true) : x = some (.ret (.va (.bl true))) := by
  unfold yesP at h
  split at h
  · rfl
  · cases h
theorem names_all : (tagsL.all fun s => yesP (F_is_name [.str s])) = true := by decide +kernel
theorem F_is_name_eq {s : Str} (h : s ∈ tagsL) : F_is_name [.str s] = some (.ret (.va (.bl true))) := yesP_eq (List.all_eq_true.mp names_all s h)
theorem len2 (a b : D) : oLen [.tup [a, b]] = some (.int 2) := (by rfl)
theorem ix20 (a b : D) : oIx (.tup [a, b]) (.int 0) = some a := (by rfl)
theorem ix21 (a b : D) : oIx (.tup [a, b]) (.int 1) = some b := (by rfl)
theorem F_is_variant_eq {p : Str × Int} (h : p.1 ∈ tagsL) (h2 : 0 ≤ p.2) (h3 : p.2 ≤ 4) : F_is_variant [vD p] = some (.ret (.va (.bl true))) := by
  simp [F_is_variant, f_is_variant, vD, isi_tup, len2, ix20, ix21, F_is_name_eq h, F_is_integer_eq, h2, h3]
theorem lenT (xs : List D) : oLen [.tup xs] = some (.int xs.length) := (by rfl)
theorem min_lI (a : List Int) : oMin [lI a] = a.min?.map .int := by
  simp only [oMin, oMin2, lI, oMinL, oI1, sqL?, Option.bind_some, intsM, Option.none_or]
theorem lcStep_inv {tg : D → Rho → Option Rho} {gt : F Bool} {fe : F D} {vs : List Nat} {x d : D} {ρ ρ' : Rho} (h : lcStep tg gt fe vs x ρ = some (some d, ρ')) :
    ∃ ρ1 ρ2 ρ3, tg x (wipeR ρ vs) = some ρ1 ∧ gt ρ1 = some (.ok true ρ2) ∧ fe ρ2 = some (.ok d ρ3) ∧ wipeR ρ3 vs = ρ' := by
  unfold lcStep at h
  split at h
  · cases h
  · rename_i ρ1 q1
    split at h
    · rename_i ρ2 q2
      split at h
      · rename_i d' ρ3 q3
        injection h with h
        injection h with e1 e2
        injection e1 with e1
        subst e1 e2
        exact ⟨ρ1, ρ2, ρ3, q1, q2, q3, rfl⟩
      · cases h
    · rename_i ρ2 q2
      injection h with h
      injection h with e1 e2
      cases e1
    · cases h
theorem sc_tags {tg : D → Rho → Option Rho} {gt : F Bool} {fe : F D} {vs : List Nat} {ρ : Rho} : ∀ (kd : List (Str × Int)) (acc : List Key),
    (∀ p ∈ kd, lcStep tg gt fe vs (vD p) ρ = some (some (.str p.1), ρ)) → (kd.map (·.1)).Nodup → (∀ p ∈ kd, .inr p.1 ∉ acc) →
    scLoop tg gt fe vs (kd.map vD) acc ρ = some (acc ++ kd.map (fun p => .inr p.1), ρ)
  | [], acc, _, _, _ => by simp [scLoop]
  | p :: kd, acc, h, nd, ha => by
    obtain ⟨ρ1, ρ2, ρ3, h1, h2, h3, h4⟩ := lcStep_inv (h p List.mem_cons_self)
    have : memK acc (.inr p.1) = false := by
      unfold memK
      rw [List.any_eq_false]
      intro x hx
      simp
      rintro rfl
      exact ha p List.mem_cons_self hx
    rw [List.map_cons, List.nodup_cons] at nd
    rw [List.map_cons, scLoop, h1]
    simp only [h2, h3, key?, this, h4]
    rw [if_neg (by decide), sc_tags kd _ (fun q hq => h q (List.mem_cons_of_mem _ hq)) nd.2 ?_]
    · simp
    · intro q hq
      simp
      refine ⟨ha q (List.mem_cons_of_mem _ hq), ?_⟩
      intro e
      exact nd.1 (List.mem_map.mpr ⟨q, hq, e⟩)
theorem F_is_kind_eq {kd : List (Str × Int)} (g : GoodK kd) : F_is_kind [kD2 kd] = some (.ret (.va (.bl true))) := by
  have h2 := g.two
  have h8 := g.eight
  have sz : kd.length ≤ sizeLine := le_sz (by omega)
  have i2 : (2 : Int) ≤ kd.length := by omega
  have i8 : (kd.length : Int) ≤ 8 := by omega
  have sb : kd.length + 1 < scanBound := by unfold scanBound; omega
  have all1 : oAll [.lst (kd.map fun _ => D.bl true)] = some (.bl true) := by rw [all_bl]; simp
  have mn : (parts kd).min? = some 0 := by
    rw [List.min?_eq_some_iff]
    exact ⟨g.z, fun b hb => (g.ps b hb).1⟩
  obtain ⟨p, hp, hp2⟩ := g.t
  obtain ⟨m, mx, hm⟩ : ∃ m, (parts kd).max? = some m ∧ 2 ≤ m := by
    cases q : (parts kd).max? with
    | none => rw [List.max?_eq_none_iff] at q; rw [q] at hp; cases hp
    | some m =>
      have q2 := q
      rw [List.max?_eq_some_iff] at q2
      have := q2.2 p hp
      exact ⟨m, rfl, by omega⟩
  have mn' : oMin [lI (parts kd)] = some (.int 0) := by rw [min_lI, mn]; rfl
  have mx' : oMax [lI (parts kd)] = some (.int m) := by rw [max_lI, mx]; rfl
  have pe : D.lst (kd.map fun p => .int p.2) = lI (parts kd) := by simp [parts]
  simp [F_is_kind, f_is_kind, kD2, isi_tup, lenT, i2, i8, sz]
  rw [lc_map1 vD (fun _ => .bl true)]
  · simp [all1, sb]
    rw [sc_tags kd [] _ g.nd (by simp)]
    · simp [lenT, sz]
      rw [lc_map1 vD (fun p => .int p.2)]
      · simp [pe, mn', mx', hm]
      · intro p hp
        simp [lcStep, vD]
    · intro p hp
      simp [lcStep, vD]
  · intro x hx
    have hx2 := g.ps x.2 (by unfold parts; exact List.mem_map_of_mem hx)
    simp [lcStep, F_is_variant_eq (g.tags x hx) hx2.1 hx2.2]
theorem F_need_kind_eq {kd : List (Str × Int)} (g : GoodK kd) : F_need_kind [kD2 kd] = some (.ret (.va .non)) := by
  simp [F_need_kind, f_need_kind, F_is_kind_eq g]
/-! ### layouts -/
def layFs (fs : List Int) : List (Str × D) := [("factors", tI fs), ("degree", .int ((fs.length : Int) - 1)), ("key", .tup [.int ((fs.length : Int) - 1), tI fs.reverse])]
def layD (fs : List Int) : D := .obj "Layout" (layFs fs)
theorem kit_tl : kitB "tuple" "list" = some false := by decide +kernel
theorem kit_tt : kitB "tuple" "tuple" = some true := by decide +kernel
theorem isi_lt (fs : List Int) : oIsi [tI fs, .tup [.ty "list", .ty "tuple"]] = some (.bl true) := by
  simp only [oIsi, tI, tyN?, tys?, kitL, kit_tl, kit_tt, Option.bind_some, Option.map_some]
theorem sfd : (Str.ofString "factors" = Str.ofString "degree") = False := by simp only [eq_iff_iff, iff_false]; decide +kernel
theorem sfk : (Str.ofString "factors" = Str.ofString "key") = False := by simp only [eq_iff_iff, iff_false]; decide +kernel
theorem sdk : (Str.ofString "degree" = Str.ofString "key") = False := by simp only [eq_iff_iff, iff_false]; decide +kernel
theorem bdf : (Str.ofString "degree" == Str.ofString "factors") = false := by decide +kernel
theorem bkf : (Str.ofString "key" == Str.ofString "factors") = false := by decide +kernel
theorem bkd : (Str.ofString "key" == Str.ofString "degree") = false := by decide +kernel
theorem F_Layout_eq {fs : List Int} (h : trim fs = fs) (h0 : ∀ x ∈ fs, 0 ≤ x) (hl : fs.length ≤ 41) : F_Layout (.ob "Layout" []) [tI fs] = some (.ret (.va .non) (.ob "Layout" ((layFs fs).map fun p => (p.1, W.va p.2)))) := by
  have sz : fs.length ≤ sizeLine := le_sz (by omega)
  have all1 : oAll [.lst (fs.map fun _ => D.bl true)] = some (.bl true) := by rw [all_bl]; simp
  have tr := F_trimmed_tI fs (by omega)
  rw [h] at tr
  have h40 : ¬(40 : Int) < fs.length - 1 := by omega
  simp [F_Layout, f_Layout, sz2, isi_lt, sz]
  rw [lc_map1 (fun d : Int => D.int d) (fun _ => D.bl true)]
  · simp [all1, tr, vas?, putDF, e_fldput, e_FldO, sfd, sfk, sdk, bdf, bkf, bkd, List.lookup, h40, sz2, layFs]
  · intro x hx
    have := h0 x hx
    simp [lcStep, F_is_integer_eq, this]
theorem frz_lay (fs : List Int) : frz (.ob "Layout" ((layFs fs).map fun p => (p.1, W.va p.2))) = layD fs := by
  simp [frz, frzF, layFs, layD]
theorem fld_fac (fs : List Int) : oFld "Layout" "factors" (layD fs) = some (tI fs) := by
  simp [oFld, layD, layFs, List.lookup]
theorem fld_key (fs : List Int) : oFld "Layout" "key" (layD fs) = some (.tup [.int ((fs.length : Int) - 1), tI fs.reverse]) := by
  simp [oFld, layD, layFs, List.lookup, bkf, bkd]
theorem F_need_bounds_eq {kd : List (Str × Int)} (g : GoodK kd) {P D : Nat} (hP : P ≤ 6) (hD : D ≤ 8) {one other : List Int} (h1 : within P D one = true) (h2 : within P D other = true) :
    F_need_bounds [kD2 kd, layD one, layD other, .int P, .int D] = some (.ret (.va .non)) := by
  have p1 : (P : Int) ≤ 6 := by omega
  have d1 : (D : Int) ≤ 8 := by omega
  simp [F_need_bounds, f_need_bounds, F_need_kind_eq g, F_is_integer_eq, p1, d1, sz2, lcLoop, fld_fac, F_are_within_eq, h1, h2, alltt]
end FL
set_option Elab.async false
set_option linter.all false
set_option maxRecDepth 100000
set_option maxHeartbeats 1000000
/-! E8: neighbours -/
namespace FL
open PySem PySem.Spec PyProof.Rows L2
section
variable {γ : Type}
def forStep (tg : D → Rho → Option Rho) (body : FS) (n : Nat) (x : D) (ρ : Rho) : Option Out := match tg x ρ with
  | none => none
  | some ρ1 => body n ρ1
theorem for_pre {tg : D → Rho → Option Rho} {body : FS} {n : Nat} (Inv : List γ → Rho → Prop) (f : γ → D) : ∀ (xs pre : List γ) (ρ : Rho),
    (∀ pr x post ρ, xs = pr ++ x :: post → Inv (pre ++ pr) ρ → ∃ ρ', forStep tg body n (f x) ρ = some (.nx ρ') ∧ Inv (pre ++ pr ++ [x]) ρ') → Inv pre ρ → ∃ ρ', forL tg body (xs.map f) n ρ = some (.nx ρ') ∧ Inv (pre ++ xs) ρ'
  | [], pre, ρ, _, h => ⟨ρ, by simp [forL], by simpa using h⟩
  | x :: xs, pre, ρ, st, h => by
    obtain ⟨ρ', h1, h2⟩ := st [] x xs ρ rfl (by simpa using h)
    obtain ⟨ρ2, h3, h4⟩ := for_pre Inv f xs (pre ++ [x]) ρ' (fun pr y post ρ e i => by
      have := st (x :: pr) y post ρ (by rw [e]; rfl) (by simpa using i)
      simpa using this) (by simpa using h2)
    refine ⟨ρ2, ?_, by simpa using h4⟩
    rw [List.map_cons, forL]
    unfold forStep at h1
    cases q : tg (f x) ρ with
    | none => rw [q] at h1; cases h1
    | some ρ1 =>
      rw [q] at h1
      simp only at h1
      simp only [h1]
      exact h3
theorem for_pre0 {tg : D → Rho → Option Rho} {body : FS} {n : Nat} (Inv : List γ → Rho → Prop) (f : γ → D) (xs : List γ) (ρ : Rho)
    (st : ∀ pr x post ρ, xs = pr ++ x :: post → Inv pr ρ → ∃ ρ', forStep tg body n (f x) ρ = some (.nx ρ') ∧ Inv (pr ++ [x]) ρ') (h : Inv [] ρ) : ∃ ρ', forL tg body (xs.map f) n ρ = some (.nx ρ') ∧ Inv xs ρ' := by
  have := for_pre Inv f xs [] ρ (by simpa using st) h
  simpa using this
end
def nbBody : FS := fIfS (fT (fFrz (fCallP F_is_step_at (aCons (fVarF 0) (aCons (fVarF 1) (aCons (fVarF 6) aNil)))))) (fSeq (fSet 7 (fCallP F_factors_behind (aCons (fVarF 0) (aCons (fVarF 1) (aCons (fVarF 6) aNil)))))
  (fIfS (fT (fFrz (fCallP F_are_within (aCons (fVarF 7) (aCons (fVarF 2) (aCons (fVarF 3) aNil)))))) (fDrop (fOwn 4 isLs oAppend (aCons (fVarF 7) aNil))) fNx)) fNx
theorem append_eq (xs : List D) (d : D) (h : xs.length < sizeLine) : oAppend (.ls xs) [d] = some (.va .non, .ls (xs ++ [d])) := by
  simp only [oAppend, if_pos h]
theorem lt_sz {n : Nat} (h : n < 10000000) : n < sizeLine := Nat.lt_of_lt_of_le h (by decide)
theorem nbBody_eq {kd : List (Str × Int)} {fs g : List Int} {P G k : Nat} {w : Str} {ok : Bool} {s : List (List Int)} {a c : Sl} (n : Nat) (hs : s.length < 1000000)
    (h1 : F_is_step_at [kD2 kd, tI fs, stepD w k] = some (.ret (.va (.bl ok)))) (h2 : F_factors_behind [kD2 kd, tI fs, stepD w k] = some (.ret (.va (tI g)))) :
    ∃ c', nbBody n [.so false (.va (kD2 kd)), .so false (.va (tI fs)), .so false (.va (.int P)), .so false (.va (.int G)), .so false (.ls (s.map tI)), a, .so false (.va (stepD w k)), c] =
    some (.nx [.so false (.va (kD2 kd)), .so false (.va (tI fs)), .so false (.va (.int P)), .so false (.va (.int G)), .so false (.ls ((s ++ (if ok then [g] else []).filter (within P G)).map tI)), a, .so false (.va (stepD w k)), c']) := by
  cases ok with
  | false => exact ⟨c, by simp [nbBody, h1]⟩
  | true =>
    refine ⟨.so false (.va (tI g)), ?_⟩
    cases q : within P G g with
    | false => simp [nbBody, h1, h2, F_are_within_eq, q]
    | true => simp [nbBody, h1, h2, F_are_within_eq, q, e_Own, append_eq _ _ (show (s.map tI).length < sizeLine from lt_sz (by simp; omega))]
theorem nbk_len (ps : List Int) (P D : Nat) (fs : List Int) (k : Nat) : (nbk ps P D fs k).length ≤ 2 := by
  unfold nbk
  refine Nat.le_trans (List.length_filter_le _ _) ?_
  rw [List.length_append]
  have : ∀ (b : Bool) (x : List Int), (if b = true then [x] else []).length ≤ 1 := by intro b x; cases b <;> simp
  have h1 := this (canOpen fs k) (stp ps fs k 1)
  have h2 := this (canClose ps fs k) (stp ps fs k (-1))
  omega
theorem fm_len {β γ : Type} (f : β → List γ) (c : Nat) : ∀ l : List β, (∀ x ∈ l, (f x).length ≤ c) → (l.flatMap f).length ≤ l.length * c
  | [], _ => by simp
  | x :: xs, h => by
    rw [List.flatMap_cons, List.length_append, List.length_cons, Nat.succ_mul]
    have := h x List.mem_cons_self
    have := fm_len f c xs fun y hy => h y (List.mem_cons_of_mem _ hy)
    omega
theorem fold_step (w : Str) (k : Nat) : D.tup [.str w, .int k, .int 1] = stepD w k := rfl
def nbBody2 : FS := fFor (fItems (fTup (aCons (fTup (aCons (fC (.str "open")) (aCons (fVarF 5) (aCons (fC (.int 1)) aNil)))) (aCons (fTup (aCons (fC (.str "close")) (aCons (fVarF 5) (aCons (fC (.int 1)) aNil)))) aNil)))) (tName 6) nbBody
theorem F_neighbours_un : F_neighbours = runP 4 8 (fSeq (fSet 4 (fLst aNil)) (fSeq (fFor (fIt oRange2 (aCons (fC (.int 1)) (aCons (fOp oAdd (fVarF 3) (fC (.int 2))) aNil))) (tName 5) nbBody2) (fRet (fMov 4)))) := rfl
theorem F_neighbours_eq {kd : List (Str × Int)} {fs : List Int} {P G : Nat} (hl : kd.length ≤ 100) (hf : fs.length ≤ 1000) (hD : G ≤ 50) (hp : ∀ p ∈ parts kd, 0 ≤ p ∧ p ≤ 4) :
    F_neighbours [kD2 kd, tI fs, .int P, .int G] = some (.ret (.ls ((nbr (parts kd) P G fs).map tI))) := by
  have r2 : oRange2 [.int 1, .int ((G : Int) + 2)] = some ((List.range (G + 1)).map fun i : Nat => D.int ((i + 1 : Nat) : Int)) := by
    have := oRange2_nat 1 (G + 2) (by omega) (by omega)
    rw [show (((G + 2 : Nat)) : Int) = (G : Int) + 2 by omega, show ((1 : Nat) : Int) = 1 from rfl] at this
    rw [this]
    unfold rangeD
    rw [show ((G : Int) + 2 - 1).toNat = G + 1 by omega]
    refine congrArg some (List.map_congr_left fun i _ => ?_)
    rw [show (1 : Int) + (i : Nat) = ((i + 1 : Nat) : Int) by omega]
  have st : ∀ pr (i : Nat) post ρ, List.range (G + 1) = pr ++ i :: post → (∃ a b c, ρ = [.so false (.va (kD2 kd)), .so false (.va (tI fs)), .so false (.va (.int P)), .so false (.va (.int G)), .so false (.ls ((pr.flatMap fun i => nbk (parts kd) P G fs (i + 1)).map tI)), a, b, c]) →
      ∃ ρ', forStep (tName 5) nbBody2 fuel (D.int ((i + 1 : Nat) : Int)) ρ = some (.nx ρ') ∧ ∃ a b c, ρ' = [.so false (.va (kD2 kd)), .so false (.va (tI fs)), .so false (.va (.int P)), .so false (.va (.int G)), .so false (.ls (((pr ++ [i]).flatMap fun i => nbk (parts kd) P G fs (i + 1)).map tI)), a, b, c] := by
    rintro pr i post ρ e ⟨a, b, c, rfl⟩
    have hi : i < G + 1 := by
      have : i ∈ List.range (G + 1) := by rw [e]; simp
      simpa using this
    have hpr : pr.length ≤ G + 1 := by
      have := congrArg List.length e
      simp at this
      omega
    have hs := fm_len (fun i => nbk (parts kd) P G fs (i + 1)) 2 pr fun x _ => nbk_len _ _ _ _ _
    generalize hS : (pr.flatMap fun i => nbk (parts kd) P G fs (i + 1)) = S at hs ⊢
    obtain ⟨c1, h1⟩ := nbBody_eq (P := P) (G := G) (s := S) (a := .so false (.va (.int ((i + 1 : Nat) : Int)))) (c := c) fuel (by omega) (F_is_step_at_o kd fs (i + 1) (by omega)) (F_factors_behind_o kd fs (i + 1) (by omega) (by omega) hl hf hp)
    obtain ⟨c2, h2⟩ := nbBody_eq (P := P) (G := G) (s := S ++ (if canOpen fs (i + 1) then [stp (parts kd) fs (i + 1) 1] else []).filter (within P G)) (a := .so false (.va (.int ((i + 1 : Nat) : Int)))) (c := c1) fuel
      (by
        have := nbk_len (parts kd) P G fs (i + 1)
        unfold nbk at this
        rw [List.filter_append, List.length_append] at this
        rw [List.length_append]
        omega) (F_is_step_at_c kd fs (i + 1) (by omega) hp hl) (F_factors_behind_c kd fs (i + 1) (by omega) (by omega) hl hf hp)
    refine ⟨[.so false (.va (kD2 kd)), .so false (.va (tI fs)), .so false (.va (.int P)), .so false (.va (.int G)), .so false (.ls ((S ++ nbk (parts kd) P G fs (i + 1)).map tI)), .so false (.va (.int ((i + 1 : Nat) : Int))), .so false (.va (stepD "close" (i + 1))), c2], ?_, _, _, _, by rw [List.flatMap_append, hS, List.flatMap_singleton]⟩
    unfold nbk
    rw [List.filter_append, ← List.append_assoc]
    clear hS hi e hs
    generalize i + 1 = k at *
    simp [forStep, nbBody2, sz3, sz2, forL, fold_step, h1, h2, -List.map_append]
  obtain ⟨ρ', e1, e2⟩ := for_pre0 (n := fuel) (tg := tName 5) (body := nbBody2)
    (fun pr ρ => ∃ a b c, ρ = [.so false (.va (kD2 kd)), .so false (.va (tI fs)), .so false (.va (.int P)), .so false (.va (.int G)), .so false (.ls ((pr.flatMap fun i => nbk (parts kd) P G fs (i + 1)).map tI)), a, b, c])
    (fun i : Nat => D.int ((i + 1 : Nat) : Int)) (List.range (G + 1)) [.so false (.va (kD2 kd)), .so false (.va (tI fs)), .so false (.va (.int P)), .so false (.va (.int G)), .so false (.ls []), .no, .no, .no] st ⟨.no, .no, .no, by simp⟩
  obtain ⟨a, b, c, rfl⟩ := e2
  rw [F_neighbours_un]
  push_cast at e1
  simp [r2, e1, nbr]
end FL
set_option Elab.async false
set_option linter.all false
set_option maxRecDepth 100000
set_option maxHeartbeats 1000000
/-! E9: waves, as the program makes them -/
namespace FL
open PySem PySem.Spec PyProof.Rows L2
abbrev Ent := List Int × Option (List Int) × Nat
def TD (v : Ent → D) (T : List Ent) : List (List Key × D) := T.map fun e => (keyI e.1, v e)
theorem keyI_inj {a b : List Int} : keyI a = keyI b ↔ a = b := by
  unfold keyI
  constructor
  · intro h
    have := congrArg (List.map fun k : Key => match k with | .inl n => n | .inr _ => 0) h
    simpa [Function.comp_def] using this
  · rintro rfl; rfl
theorem look_TD (v : Ent → D) (x : List Int) : ∀ T : List Ent, lookD (TD v T) (keyI x) = (T.find? fun e => decide (e.1 = x)).map v
  | [] => rfl
  | e :: T => by
    have ih := look_TD v x T
    unfold lookD TD at ih ⊢
    rw [List.map_cons, List.find?_cons, List.find?_cons]
    simp only [keyI_inj]
    by_cases h : e.1 = x
    · simp [h]
    · simp only [h, decide_false]
      exact ih
theorem look_isSome (v : Ent → D) (x : List Int) (T : List Ent) : (lookD (TD v T) (keyI x)).isSome = decide (x ∈ T.map (·.1)) := by
  rw [look_TD, Option.isSome_map]
  by_cases h : x ∈ T.map (·.1)
  · rw [decide_eq_true h, List.find?_isSome]
    obtain ⟨e, h1, h2⟩ := List.mem_map.mp h
    exact ⟨e, h1, by simpa using h2⟩
  · rw [decide_eq_false h]
    cases q : T.find? fun e => decide (e.1 = x) with
    | none => rfl
    | some e =>
      have h1 := List.mem_of_find?_eq_some q
      have h2 := List.find?_some q
      exact absurd (List.mem_map.mpr ⟨e, h1, by simpa using h2⟩) h
theorem din_TD (v : Ent → D) (x : List Int) (T : List Ent) (neg : Bool) : oDIn neg (tI x) (.dt (TD v T)) = some (.bl (if neg then !decide (x ∈ T.map (·.1)) else decide (x ∈ T.map (·.1)))) := by
  simp only [oDIn, dget?, tkey_tI, Option.map_some, look_isSome]
theorem put_TD (v : Ent → D) (e : Ent) (T : List Ent) (h : e.1 ∉ T.map (·.1)) (hl : T.length < sizeLine) : oSetD (.dt (TD v T)) (tI e.1) (v e) = some (.dt (TD v (T ++ [e]))) := by
  have : ((TD v T).any fun kv => decide (kv.1 = keyI e.1)) = false := by
    rw [List.any_eq_false]
    intro y hy
    unfold TD at hy
    obtain ⟨f, hf, rfl⟩ := List.mem_map.mp hy
    simp only [decide_eq_true_eq, keyI_inj]
    intro z
    exact h (List.mem_map.mpr ⟨f, hf, z⟩)
  have hl2 : (TD v T).length < sizeLine := by simpa [TD] using hl
  simp only [oSetD, tkey_tI, Option.bind_some, if_pos hl2, putD, this]
  simp [TD]
theorem scan_snoc {α : Type} [DecidableEq α] (K : List α) (c : List (α × α)) (d : α × α) : scan K (c ++ [d]) = if d.2 ∈ K ++ (scan K c).map (·.2) then scan K c else scan K c ++ [d] := by
  rw [scan_append]
  split
  · rename_i h; rw [scan_in h]; simp [scan]
  · rename_i h; rw [scan_out h]; simp [scan]
/-- the table with what some candidates bring -/
def ext (T : List Ent) (i : Nat) (c : List (List Int × List Int)) : List Ent := T ++ (scan (T.map (·.1)) c).map fun c => (c.2, some c.1, i)
def lat (T : List Ent) (c : List (List Int × List Int)) : List (List Int) := (scan (T.map (·.1)) c).map (·.2)
theorem ext_keys (T : List Ent) (i : Nat) (c : List (List Int × List Int)) : (ext T i c).map (·.1) = T.map (·.1) ++ lat T c := by
  unfold ext lat
  rw [List.map_append, List.map_map]
  rfl
theorem ext_in {T : List Ent} {i : Nat} {c : List (List Int × List Int)} {x y : List Int} (h : y ∈ (ext T i c).map (·.1)) : ext T i (c ++ [(x, y)]) = ext T i c ∧ lat T (c ++ [(x, y)]) = lat T c := by
  rw [ext_keys] at h
  unfold lat at h
  unfold ext lat
  rw [scan_snoc, if_pos h]
  exact ⟨rfl, rfl⟩
theorem ext_out {T : List Ent} {i : Nat} {c : List (List Int × List Int)} {x y : List Int} (h : y ∉ (ext T i c).map (·.1)) : ext T i (c ++ [(x, y)]) = ext T i c ++ [(y, some x, i)] ∧ lat T (c ++ [(x, y)]) = lat T c ++ [y] := by
  rw [ext_keys] at h
  unfold lat at h
  unfold ext lat
  rw [scan_snoc, if_neg h]
  simp
structure GoodT (P G : Nat) (T : List Ent) : Prop where
  nd : (T.map (·.1)).Nodup
  v : ∀ x ∈ T.map (·.1), Valid P G x
theorem comp_all : ∀ P, P < 7 → ∀ G, G < 9 → (comp (G + 1) P).length ≤ 5005 := by decide +kernel
theorem ext_good {P G : Nat} {T : List Ent} (g : GoodT P G T) (i : Nat) {c : List (List Int × List Int)} (hc : ∀ d ∈ c, Valid P G d.2) : GoodT P G (ext T i c) := by
  constructor
  · rw [ext_keys]
    exact scan_nodup g.nd
  · intro x hx
    rw [ext_keys] at hx
    rcases List.mem_append.mp hx with h | h
    · exact g.v x h
    · unfold lat at h
      obtain ⟨d, h1, rfl⟩ := List.mem_map.mp h
      exact hc d (scan_mem h1).1
theorem good_len {P G : Nat} {T : List Ent} (g : GoodT P G T) (hP : P ≤ 6) (hG : G ≤ 8) : T.length ≤ 5005 := by
  have := valid_count g.nd g.v
  have := comp_all P (by omega) G (by omega)
  simp at *
  omega
theorem lat_len {P G : Nat} {T : List Ent} {i : Nat} {c : List (List Int × List Int)} (g : GoodT P G (ext T i c)) (hP : P ≤ 6) (hG : G ≤ 8) : (lat T c).length ≤ 5005 := by
  have h := good_len g hP hG
  unfold ext at h
  unfold lat
  rw [List.length_append, List.length_map] at h
  rw [List.length_map]
  omega
def vP (e : Ent) : D := match e.2.1 with
  | none => .non
  | some y => tI y
def reBody : FS := fIfS (gPeek (fT (fOp (oDIn true) (fVarF 9) (fVarF 5)))) (fSeq (fPut 5 oSetD (fVarF 8) (fVarF 9))
  (fDrop (fOwn 7 isLs oAppend (aCons (fVarF 9) aNil)))) fNx
theorem reBody_eq {a0 a1 a2 a3 a4 a6 : Sl} {P G i n : Nat} {T : List Ent} {c : List (List Int × List Int)} {x y : List Int} (hP : P ≤ 6) (hG : G ≤ 8) (g : GoodT P G (ext T i c)) :
    reBody n [a0, a1, a2, a3, a4, .so false (.dt (TD vP (ext T i c))), a6, .so false (.ls ((lat T c).map tI)), .so false (.va (tI x)), .so false (.va (tI y))] =
    some (.nx [a0, a1, a2, a3, a4, .so false (.dt (TD vP (ext T i (c ++ [(x, y)])))), a6, .so false (.ls ((lat T (c ++ [(x, y)])).map tI)), .so false (.va (tI x)), .so false (.va (tI y))]) := by
  by_cases h : y ∈ (ext T i c).map (·.1)
  · rw [(ext_in (x := x) h).1, (ext_in (i := i) (x := x) h).2]
    simp [reBody, din_TD, h, -List.mem_map]
  · rw [(ext_out (x := x) h).1, (ext_out (i := i) (x := x) h).2]
    have l1 := good_len g hP hG
    have l2 := lat_len g hP hG
    have p := put_TD vP (y, some x, i) (ext T i c) h (lt_sz (by omega))
    have l3 : ((lat T c).map tI).length < sizeLine := lt_sz (by rw [List.length_map]; omega)
    simp only [vP] at p
    simp [reBody, din_TD, h, e_put, e_Own, p, append_eq _ _ l3, -List.mem_map]
end FL
set_option Elab.async false
set_option linter.all false
set_option maxRecDepth 100000
set_option maxHeartbeats 1000000
/-! E10: reached -/
namespace FL
open PySem PySem.Spec PyProof.Rows L2
def slA (kd : List (Str × Int)) (one other : List Int) (P G : Nat) (a5 a6 a7 a8 a9 : Sl) : Rho :=
  [.so false (.va (kD2 kd)), .so false (.va (layD one)), .so false (.va (layD other)), .so false (.va (.int P)), .so false (.va (.int G)), a5, a6, a7, a8, a9]
structure GoodC (kd : List (Str × Int)) (P G : Nat) : Prop where
  k : GoodK kd
  P : P ≤ 6
  G : G ≤ 8
theorem GoodC.nbs {kd : List (Str × Int)} {P G : Nat} (C : GoodC kd P G) {fs : List Int} (v : Valid P G fs) : F_neighbours [kD2 kd, tI fs, .int P, .int G] = some (.ret (.ls ((nbr (parts kd) P G fs).map tI))) := by
  have h8 := C.k.eight
  have hl := v.len
  have hG := C.G
  exact F_neighbours_eq (by omega) (by omega) (by omega) C.k.ps
theorem GoodC.nbv {kd : List (Str × Int)} {P G : Nat} (C : GoodC kd P G) {fs : List Int} (v : Valid P G fs) : ∀ g ∈ nbr (parts kd) P G fs, Valid P G g := nbr_valid C.k.ps v
theorem nbr_len (ps : List Int) (P G : Nat) (fs : List Int) : (nbr ps P G fs).length ≤ (G + 1) * 2 := by
  have := fm_len (fun i => nbk ps P G fs (i + 1)) 2 (List.range (G + 1)) fun x _ => nbk_len _ _ _ _ _
  simpa [nbr] using this
theorem forStep_name {i n : Nat} {body : FS} {d : D} {ρ : Rho} (h : i < ρ.length) : forStep (tName i) body n d ρ = body n (ρ.set i (.so false (.va d))) := by
  unfold forStep tName
  rw [if_pos h]
section
variable {kd : List (Str × Int)} {one other : List Int} {P G : Nat} {a5 a6 a7 a8 a9 s : Sl}
theorem slA_len : (slA kd one other P G a5 a6 a7 a8 a9).length = 10 := (rfl)
@[simp high] theorem slA_get0 : (slA kd one other P G a5 a6 a7 a8 a9)[0]? = some (.so false (.va (kD2 kd))) := (rfl)
@[simp high] theorem slA_get1 : (slA kd one other P G a5 a6 a7 a8 a9)[1]? = some (.so false (.va (layD one))) := (rfl)
@[simp high] theorem slA_get2 : (slA kd one other P G a5 a6 a7 a8 a9)[2]? = some (.so false (.va (layD other))) := (rfl)
@[simp high] theorem slA_get3 : (slA kd one other P G a5 a6 a7 a8 a9)[3]? = some (.so false (.va (.int P))) := (rfl)
@[simp high] theorem slA_get4 : (slA kd one other P G a5 a6 a7 a8 a9)[4]? = some (.so false (.va (.int G))) := (rfl)
@[simp high] theorem slA_get5 : (slA kd one other P G a5 a6 a7 a8 a9)[5]? = some a5 := (rfl)
@[simp high] theorem slA_get6 : (slA kd one other P G a5 a6 a7 a8 a9)[6]? = some a6 := (rfl)
@[simp high] theorem slA_get7 : (slA kd one other P G a5 a6 a7 a8 a9)[7]? = some a7 := (rfl)
@[simp high] theorem slA_get8 : (slA kd one other P G a5 a6 a7 a8 a9)[8]? = some a8 := (rfl)
@[simp high] theorem slA_get9 : (slA kd one other P G a5 a6 a7 a8 a9)[9]? = some a9 := (rfl)
@[simp high] theorem slA_set5 : (slA kd one other P G a5 a6 a7 a8 a9).set 5 s = slA kd one other P G s a6 a7 a8 a9 := (rfl)
@[simp high] theorem slA_set6 : (slA kd one other P G a5 a6 a7 a8 a9).set 6 s = slA kd one other P G a5 s a7 a8 a9 := (rfl)
@[simp high] theorem slA_set7 : (slA kd one other P G a5 a6 a7 a8 a9).set 7 s = slA kd one other P G a5 a6 s a8 a9 := (rfl)
@[simp high] theorem slA_set8 : (slA kd one other P G a5 a6 a7 a8 a9).set 8 s = slA kd one other P G a5 a6 a7 s a9 := (rfl)
@[simp high] theorem slA_set9 : (slA kd one other P G a5 a6 a7 a8 a9).set 9 s = slA kd one other P G a5 a6 a7 a8 s := (rfl)
end
def reFor1 : FS := fFor (fItems (fFrz (fCallP F_neighbours (aCons (fVarF 0) (aCons (fVarF 8) (aCons (fVarF 3) (aCons (fVarF 4) aNil))))))) (tName 9) reBody
theorem reFor1_eq {kd : List (Str × Int)} {one other : List Int} {P G i n : Nat} {a6 a9 : Sl} {T : List Ent} {c : List (List Int × List Int)} {x : List Int} (C : GoodC kd P G) (g : GoodT P G (ext T i c)) (v : Valid P G x) :
    ∃ a9', reFor1 n (slA kd one other P G (.so false (.dt (TD vP (ext T i c)))) a6 (.so false (.ls ((lat T c).map tI))) (.so false (.va (tI x))) a9) =
      some (.nx (slA kd one other P G (.so false (.dt (TD vP (ext T i (c ++ (nbr (parts kd) P G x).map fun t => (x, t)))))) a6 (.so false (.ls ((lat T (c ++ (nbr (parts kd) P G x).map fun t => (x, t))).map tI))) (.so false (.va (tI x))) a9')) := by
  have nb := C.nbs v
  have nv := C.nbv v
  have nl := nbr_len (parts kd) P G x
  have hG := C.G
  generalize nbr (parts kd) P G x = N at nb nv nl
  obtain ⟨ρ', e1, e2⟩ := for_pre0 (n := n) (tg := tName 9) (body := reBody)
    (fun pr ρ => ∃ a9', ρ = slA kd one other P G (.so false (.dt (TD vP (ext T i (c ++ pr.map fun t => (x, t)))))) a6 (.so false (.ls ((lat T (c ++ pr.map fun t => (x, t))).map tI))) (.so false (.va (tI x))) a9')
    tI N (slA kd one other P G (.so false (.dt (TD vP (ext T i c)))) a6 (.so false (.ls ((lat T c).map tI))) (.so false (.va (tI x))) a9)
    (by
      rintro pr y post ρ e ⟨a9', rfl⟩
      have g2 : GoodT P G (ext T i (c ++ pr.map fun t => (x, t))) := by
        constructor
        · rw [ext_keys]
          unfold lat
          have : (T.map (·.1)).Nodup := by
            have := g.nd
            rw [ext_keys] at this
            exact (List.nodup_append.mp this).1
          exact scan_nodup this
        · intro z hz
          rw [ext_keys] at hz
          unfold lat at hz
          rw [scan_append, List.map_append, ← List.append_assoc] at hz
          rcases List.mem_append.mp hz with hz | hz
          · exact g.v z (by rw [ext_keys]; exact hz)
          · obtain ⟨d, h1, rfl⟩ := List.mem_map.mp hz
            obtain ⟨t, h2, rfl⟩ := List.mem_map.mp (scan_mem h1).1
            exact nv t (by rw [e]; exact List.mem_append_left _ h2)
      have := reBody_eq (a0 := .so false (.va (kD2 kd))) (a1 := .so false (.va (layD one))) (a2 := .so false (.va (layD other))) (a3 := .so false (.va (.int P))) (a4 := .so false (.va (.int G))) (a6 := a6) (n := n) (x := x) (y := y) C.P C.G g2
      refine ⟨_, ?_, .so false (.va (tI y)), rfl⟩
      rw [List.map_append, ← List.append_assoc, List.map_singleton, forStep_name (by rw [slA_len]; omega), slA_set9]
      exact this)
    ⟨a9, by simp⟩
  obtain ⟨a9', rfl⟩ := e2
  refine ⟨a9', ?_⟩
  rw [← e1]
  unfold reFor1 slA
  simp [nb]
def reFor2 : FS := fFor (fItems (fVarF 6)) (tName 8) reFor1
theorem reFor2_eq {kd : List (Str × Int)} {one other : List Int} {P G i n : Nat} {a8 a9 : Sl} {T : List Ent} {L : List (List Int)} (C : GoodC kd P G) (g : GoodT P G T) (v : ∀ x ∈ L, Valid P G x) :
    ∃ a8' a9', reFor2 n (slA kd one other P G (.so false (.dt (TD vP T))) (.so false (.va (.lst (L.map tI)))) (.so false (.ls [])) a8 a9) =
      some (.nx (slA kd one other P G (.so false (.dt (TD vP (ext T i (cands (nbr (parts kd) P G) L))))) (.so false (.va (.lst (L.map tI)))) (.so false (.ls ((lat T (cands (nbr (parts kd) P G) L)).map tI))) a8' a9')) := by
  obtain ⟨ρ', e1, e2⟩ := for_pre0 (n := n) (tg := tName 8) (body := reFor1)
    (fun pr ρ => ∃ a8' a9', ρ = slA kd one other P G (.so false (.dt (TD vP (ext T i (cands (nbr (parts kd) P G) pr))))) (.so false (.va (.lst (L.map tI)))) (.so false (.ls ((lat T (cands (nbr (parts kd) P G) pr)).map tI))) a8' a9')
    tI L (slA kd one other P G (.so false (.dt (TD vP T))) (.so false (.va (.lst (L.map tI)))) (.so false (.ls [])) a8 a9)
    (by
      rintro pr x post ρ e ⟨a8', a9', rfl⟩
      have g2 : GoodT P G (ext T i (cands (nbr (parts kd) P G) pr)) := by
        refine ext_good g i fun d hd => ?_
        unfold cands at hd
        obtain ⟨y, h1, h2⟩ := List.mem_flatMap.mp hd
        obtain ⟨t, h3, rfl⟩ := List.mem_map.mp h2
        exact C.nbv (v y (by rw [e]; exact List.mem_append_left _ h1)) t h3
      have vx : Valid P G x := v x (by rw [e]; simp)
      obtain ⟨a9'', h⟩ := reFor1_eq (one := one) (other := other) (n := n) (a6 := .so false (.va (.lst (L.map tI)))) (a9 := a9') C g2 vx
      refine ⟨_, ?_, .so false (.va (tI x)), a9'', rfl⟩
      have : cands (nbr (parts kd) P G) (pr ++ [x]) = cands (nbr (parts kd) P G) pr ++ (nbr (parts kd) P G x).map fun t => (x, t) := by
        unfold cands
        rw [List.flatMap_append, List.flatMap_singleton]
      rw [this, forStep_name (by rw [slA_len]; omega), slA_set8]
      exact h)
    ⟨a8, a9, by simp [cands, ext, lat, scan]⟩
  obtain ⟨a8', a9', rfl⟩ := e2
  refine ⟨a8', a9', ?_⟩
  rw [← e1]
  unfold reFor2
  simp [slA_get6, slA_set6]
end FL
set_option Elab.async false
set_option linter.all false
set_option maxRecDepth 100000
set_option maxHeartbeats 1000000
/-! E11: reached, way_to, shortest, distance -/
namespace FL
open PySem PySem.Spec PyProof.Rows L2
theorem toPys_tI : ∀ l : List (List Int), toPys (l.map tI) = some (l.map fun x => PyData.tuple (x.map .int))
  | [] => rfl
  | x :: xs => by simp [toPys, toPy_tI, toPys_tI xs]
theorem shaped_LL (l : List (List Int)) : SeqAt.shaped (.list (l.map fun x => PyData.tuple (x.map .int))) = true := by
  have h1 : ∀ l : List (List Int), PyData.canLayAll0 (l.map fun x => PyData.tuple (x.map .int)) = true := by
    intro l
    induction l with
    | nil => rfl
    | cons x xs ih => simp [PyData.canLayAll0, PyData.canLay0, lay_int, ih]
  have h2 : ∀ l : List (List Int), PyData.depthAll (l.map fun x => PyData.tuple (x.map .int)) ≤ 1 := by
    intro l
    induction l with
    | nil => simp [PyData.depthAll]
    | cons x xs ih => simp [PyData.depthAll, PyData.depth, dep_int]; omega
  have := h2 l
  simp [SeqAt.shaped, PyData.canLay0, PyData.depth, h1]
  omega
theorem ne_LL (l : List (List Int)) : oNe (.lst (l.map tI)) (.lst []) = some (.bl (!decide (l = []))) := by
  have e1 : toPy (.lst (l.map tI)) = some (.list (l.map fun x => PyData.tuple (x.map .int))) := by simp only [toPy, toPys_tI, Option.map_some]
  have e2 : toPy (.lst []) = some (.list []) := by rfl
  have e3 : SeqAt.shaped (.list []) = true := shaped_lI []
  simp only [oNe, e1, e2, e3, shaped_LL, and_self, if_true, PyData.eqv]
  cases l with
  | nil => rfl
  | cons x xs => simp [PyData.eqvAll]
def reCond : F Bool := gAnd (fT (fOp oNe (fVarF 6) (fFrz (fLst aNil)))) (gPeek (fT (fOp (oDIn true) (fFld "Layout" "factors" (fVarF 2)) (fVarF 5))))
def reWhile : FS := fSeq (fSet 7 (fLst aNil)) (fSeq reFor2 (fSet 6 (fMov 7)))
theorem F_reached_un : F_reached = runP 5 10 (fSeq (fPar 5 6 (fDsp (fFld "Layout" "factors" (fVarF 1)) (fC .non)) (fLst (aCons (fFld "Layout" "factors" (fVarF 1)) aNil))) (fSeq (whileF reCond reWhile) (fRet (fMov 5)))) := rfl
section
variable {kd : List (Str × Int)} {one other : List Int} {P G : Nat} {a5 a6 a7 a8 a9 : Sl}
theorem slA_map : (slA kd one other P G a5 a6 a7 a8 a9).map frzSl = slA kd one other P G (frzSl a5) (frzSl a6) (frzSl a7) (frzSl a8) (frzSl a9) := by
  simp [slA]
theorem reCond_eq (T : List Ent) (L : List (List Int)) : reCond (slA kd one other P G (.so false (.dt (TD vP T))) (.so false (.ls (L.map tI))) a7 a8 a9) =
    some (.ok (!decide (L = []) && !decide (other ∈ T.map (·.1))) (slA kd one other P G (.so false (.dt (TD vP T))) (.so false (.va (.lst (L.map tI)))) a7 a8 a9)) := by
  by_cases h : L = []
  · subst h
    simp [reCond, slA_get6, slA_set6, ne_LL]
  · simp [reCond, slA_get6, slA_set6, ne_LL, h, slA_map, slA_get2, slA_get5, slA_set5, fld_fac, din_TD, -List.mem_map]
theorem reWhile_eq {i n : Nat} {T : List Ent} {L : List (List Int)} (C : GoodC kd P G) (g : GoodT P G T) (v : ∀ x ∈ L, Valid P G x) :
    ∃ a8' a9', reWhile n (slA kd one other P G (.so false (.dt (TD vP T))) (.so false (.va (.lst (L.map tI)))) a7 a8 a9) =
      some (.nx (slA kd one other P G (.so false (.dt (TD vP (ext T i (cands (nbr (parts kd) P G) L))))) (.so false (.ls ((lat T (cands (nbr (parts kd) P G) L)).map tI))) .no a8' a9')) := by
  obtain ⟨a8', a9', h⟩ := reFor2_eq (one := one) (other := other) (n := n) (i := i) (a8 := a8) (a9 := a9) C g v
  refine ⟨a8', a9', ?_⟩
  simp [reWhile, szl0, slA_len, slA_set7, h, slA_get7, slA_set6, -getElem?_pos]
theorem bT_good (C : GoodC kd P G) (v : Valid P G one) (i : Nat) : GoodT P G (bT (nbr (parts kd) P G) one i) :=
  ⟨bK_nodup i, bK_valid v (fun x hx => C.nbv hx) i⟩
theorem bL_valid (C : GoodC kd P G) (v : Valid P G one) (i : Nat) : ∀ x ∈ bL (nbr (parts kd) P G) one i, Valid P G x :=
  fun x hx => bK_valid v (fun x hx => C.nbv hx) i x (bL_sub_K i x hx)
theorem F_reached_eq (C : GoodC kd P G) (v : Valid P G one) {n : Nat} (hn : n < 2 ^ 32)
    (h0 : ∀ i, i < n → bL (nbr (parts kd) P G) one i ≠ [] ∧ other ∉ bK (nbr (parts kd) P G) one i) (h1 : bL (nbr (parts kd) P G) one n = [] ∨ other ∈ bK (nbr (parts kd) P G) one n) :
    F_reached [kD2 kd, layD one, layD other, .int P, .int G] = some (.ret (.dt (TD vP (bT (nbr (parts kd) P G) one n)))) := by
  have hf := fuel_gt
  obtain ⟨ρ', ⟨a7, a8, a9, rfl⟩, e2⟩ := while_inv (c := reCond) (body := reWhile)
    (fun i ρ => ∃ a7 a8 a9, ρ = slA kd one other P G (.so false (.dt (TD vP (bT (nbr (parts kd) P G) one i)))) (.so false (.ls ((bL (nbr (parts kd) P G) one i).map tI))) a7 a8 a9)
    n fuel 0 (slA kd one other P G (.so false (.dt (TD vP (bT (nbr (parts kd) P G) one 0)))) (.so false (.ls ((bL (nbr (parts kd) P G) one 0).map tI))) .no .no .no) (by omega)
    (by
      rintro j ρ - hj ⟨a7, a8, a9, rfl⟩
      obtain ⟨q1, q2⟩ := h0 j (by omega)
      rw [bK_eq] at q2
      refine ⟨_, by rw [reCond_eq]; simp only [q1, q2, decide_false, Bool.not_false, Bool.and_self]; rfl, fun n => ?_⟩
      obtain ⟨a8', a9', h⟩ := reWhile_eq (one := one) (other := other) (n := n) (i := j + 1) (a7 := a7) (a8 := a8) (a9 := a9) C (bT_good C v j) (bL_valid C v j)
      exact ⟨_, h, _, _, _, rfl⟩)
    ⟨.no, .no, .no, rfl⟩
  rw [Nat.zero_add] at e2
  have e3 := e2 _ (by
    rw [reCond_eq]
    have : (!decide (bL (nbr (parts kd) P G) one n = []) && !decide (other ∈ List.map (fun x => x.fst) (bT (nbr (parts kd) P G) one n))) = false := by
      rcases h1 with h1 | h1
      · simp [h1]
      · rw [bK_eq] at h1
        simp only [h1, decide_true, Bool.not_true, Bool.and_false]
    rw [this])
  rw [F_reached_un]
  have z1 : TD vP (bT (nbr (parts kd) P G) one 0) = [(keyI one, .non)] := rfl
  have z2 : (bL (nbr (parts kd) P G) one 0).map tI = [tI one] := rfl
  rw [z1, z2] at e3
  simp only [slA] at e3
  simp [fld_fac, sz1, putWs, e3]
theorem find_of {T : List Ent} (nd : (T.map (·.1)).Nodup) {e : Ent} (h : e ∈ T) : T.find? (fun f => decide (f.1 = e.1)) = some e := by
  induction T with
  | nil => cases h
  | cons f T ih =>
    rw [List.map_cons, List.nodup_cons] at nd
    rw [List.find?_cons]
    rcases List.mem_cons.mp h with rfl | h
    · simp
    · have : f.1 ≠ e.1 := by
        intro z
        exact nd.1 (List.mem_map.mpr ⟨e, h, z.symm⟩)
      simp only [this, decide_false]
      exact ih nd.2 h
theorem dget_TD (w : Ent → D) {T : List Ent} (nd : (T.map (·.1)).Nodup) {e : Ent} (h : e ∈ T) : oDGet (.dt (TD w T)) (tI e.1) = some (w e) := by
  simp only [oDGet, dget?, tkey_tI, Option.map_some, look_TD, find_of nd h, Option.bind_some, id]
@[simp] theorem notN_tI (x : List Int) : oNotN (tI x) .non = some (.bl true) := (rfl)
@[simp] theorem notN_non : oNotN .non .non = some (.bl false) := (rfl)
@[simp] theorem isN_non : oIsN .non .non = some (.bl true) := (rfl)
@[simp] theorem isN_lst (x : List D) : oIsN (.lst x) .non = some (.bl false) := (rfl)
@[simp] theorem isN_int (x : Int) : oIsN (.int x) .non = some (.bl false) := (rfl)
def wayCond : F Bool := fT (fOp oNotN (fVarF 3) (fC .non))
def wayBody : FS := fSeq (fDrop (fOwn 2 isLs oAppend (aCons (fVarF 3) aNil))) (fSet 3 (fVa (fOp oDGet (fVarF 0) (fVarF 3))))
theorem F_way_to_un : F_way_to = runP 2 4 (fSeq (fPar 2 3 (fLst aNil) (fMov 1)) (fSeq (whileF wayCond wayBody) (fRet (fRevL (fVarF 2))))) := rfl
theorem while_way {T : List Ent} {n : Nat} (hT : T = bT (nbr (parts kd) P G) one n) (a1 : Sl) {x : List Int} {l : List (List Int)} (b : Back (nbr (parts kd) P G) one n x l) :
    ∀ (acc : List (List Int)) (m : Nat), l.length < m → acc.length + l.length ≤ 100000 → whileF wayCond wayBody m [.so false (.va (.dt (TD vP T))), a1, .so false (.ls (acc.map tI)), .so false (.va (tI x))] =
      some (.nx [.so false (.va (.dt (TD vP T))), a1, .so false (.ls ((acc ++ l).map tI)), .so false (.va .non)]) := by
  have nd : (T.map (·.1)).Nodup := by rw [hT]; exact bK_nodup n
  induction b with
  | base h =>
    intro acc m hm hl
    obtain ⟨m, rfl⟩ : ∃ k, m = k + 1 := ⟨m - 1, by omega⟩
    obtain ⟨m, rfl⟩ : ∃ k, m = k + 1 := ⟨m - 1, by simp at hm; omega⟩
    rw [← hT] at h
    have d := dget_TD vP nd h
    have l3 : (acc.map tI).length < sizeLine := lt_sz (by rw [List.length_map]; omega)
    simp only [vP] at d
    simp [whileF, wayCond, wayBody, e_Own, append_eq _ _ l3, d]
  | @step x y i l h h2 b ih =>
    intro acc m hm hl
    obtain ⟨m, rfl⟩ : ∃ k, m = k + 1 := ⟨m - 1, by omega⟩
    rw [← hT] at h
    have d := dget_TD vP nd h
    have l3 : (acc.map tI).length < sizeLine := lt_sz (by rw [List.length_map]; omega)
    have := ih (acc ++ [x]) m (by simp at hm; omega) (by simp at hl ⊢; omega)
    simp only [vP] at d
    have c1 : wayCond [.so false (.va (.dt (TD vP T))), a1, .so false (.ls (acc.map tI)), .so false (.va (tI x))] = some (.ok true [.so false (.va (.dt (TD vP T))), a1, .so false (.ls (acc.map tI)), .so false (.va (tI x))]) := by simp [wayCond]
    have c2 : wayBody m [.so false (.va (.dt (TD vP T))), a1, .so false (.ls (acc.map tI)), .so false (.va (tI x))] = some (.nx [.so false (.va (.dt (TD vP T))), a1, .so false (.ls ((acc ++ [x]).map tI)), .so false (.va (tI y))]) := by simp [wayBody, e_Own, append_eq _ _ l3, d]
    rw [whileF, c1]
    simp only [c2]
    rw [this, List.append_assoc]
    rfl
theorem F_way_to_eq {T : List Ent} {n : Nat} (hT : T = bT (nbr (parts kd) P G) one n) {x : List Int} {l : List (List Int)} (b : Back (nbr (parts kd) P G) one n x l) (hl : l.length ≤ 100000) :
    F_way_to [.dt (TD vP T), tI x] = some (.ret (.ls (l.reverse.map tI))) := by
  have hf := fuel_gt
  have h := while_way hT (.so false (.va (tI x))) b [] fuel (by omega) (by simpa using hl)
  rw [F_way_to_un]
  simp at h
  simp [szl0, h]
end
end FL
set_option Elab.async false
set_option linter.all false
set_option maxRecDepth 100000
set_option maxHeartbeats 1000000
/-! E12: shortest, distance -/
namespace FL
open PySem PySem.Spec PyProof.Rows L2
variable {kd : List (Str × Int)} {one other : List Int} {P G : Nat}
theorem Valid.w {P G : Nat} {fs : List Int} (v : Valid P G fs) : within P G fs = true := by
  simp [within, v.len, v.sum]
theorem Valid.lay {P G : Nat} {fs : List Int} (v : Valid P G fs) (hG : G ≤ 8) : F_Layout (.ob "Layout" []) [tI fs] = some (.ret (.va .non) (.ob "Layout" ((layFs fs).map fun p => (p.1, W.va p.2)))) := by
  have := v.len
  exact F_Layout_eq v.tr v.nn (by omega)
theorem F_shortest_none (C : GoodC kd P G) (v : Valid P G one) (v2 : Valid P G other) {n : Nat} (hn : n < 2 ^ 32)
    (h0 : ∀ i, i < n → bL (nbr (parts kd) P G) one i ≠ []) (h1 : bL (nbr (parts kd) P G) one n = []) (h2 : other ∉ bK (nbr (parts kd) P G) one n) :
    F_shortest [kD2 kd, layD one, layD other, .int P, .int G] = some (.ret (.va .non)) := by
  have r := F_reached_eq (other := other) C v hn (fun i hi => ⟨h0 i hi, fun z => h2 (bK_mono (Nat.le_of_lt hi) _ z)⟩) (.inl h1)
  have b := F_need_bounds_eq C.k C.P C.G v.w v2.w
  rw [bK_eq] at h2
  simp [F_shortest, f_shortest, b, r, fld_fac, din_TD, h2, -List.mem_map]
theorem F_shortest_some (C : GoodC kd P G) (v : Valid P G one) (v2 : Valid P G other) {n : Nat} (hn : n < 10000) (h : other ∈ bL (nbr (parts kd) P G) one n) :
    ∃ l, Back (nbr (parts kd) P G) one n other l ∧ l.length = n + 1 ∧ F_shortest [kD2 kd, layD one, layD other, .int P, .int G] = some (.ret (.ls (l.reverse.map layD))) := by
  obtain ⟨h1, h2⟩ := bfs_found h
  have r := F_reached_eq (other := other) C v (by omega) h1 (.inr h2)
  have b := F_need_bounds_eq C.k C.P C.G v.w v2.w
  obtain ⟨l, hl, hl2⟩ := back_ex h (Nat.le_refl _)
  have w := F_way_to_eq rfl hl (by omega)
  refine ⟨l, hl, hl2, ?_⟩
  have vl : ∀ x ∈ l, Valid P G x := fun x hx => bK_valid v (fun x hx => C.nbv hx) n x (hl.sub x hx)
  have sz : l.length ≤ sizeLine := le_sz (by omega)
  rw [bK_eq] at h2
  rw [List.map_reverse] at w
  simp [F_shortest, f_shortest, b, r, fld_fac, din_TD, h2, w, sz, -List.mem_map]
  rw [← List.map_reverse, lc_map1 tI layD]
  · simp
  · intro x hx
    have := (vl x (by simpa using hx)).lay C.G
    simp [lcStep, this, frz_lay]
theorem F_distance_none (C : GoodC kd P G) (v : Valid P G one) (v2 : Valid P G other) {n : Nat} (hn : n < 2 ^ 32)
    (h0 : ∀ i, i < n → bL (nbr (parts kd) P G) one i ≠ []) (h1 : bL (nbr (parts kd) P G) one n = []) (h2 : other ∉ bK (nbr (parts kd) P G) one n) :
    F_distance [kD2 kd, layD one, layD other, .int P, .int G] = some (.ret (.va .non)) := by
  have := F_shortest_none C v v2 hn h0 h1 h2
  simp [F_distance, f_distance, this]
theorem lenL (xs : List D) : oLen [.lst xs] = some (.int xs.length) := (by rfl)
theorem F_distance_some (C : GoodC kd P G) (v : Valid P G one) (v2 : Valid P G other) {n : Nat} (hn : n < 10000) (h : other ∈ bL (nbr (parts kd) P G) one n) :
    F_distance [kD2 kd, layD one, layD other, .int P, .int G] = some (.ret (.va (.int n))) := by
  obtain ⟨l, _, hl, h⟩ := F_shortest_some C v v2 hn h
  simp [F_distance, f_distance, h, lenL, hl]
end FL
set_option Elab.async false
set_option linter.all false
set_option maxRecDepth 100000
set_option maxHeartbeats 1000000
/-! E13: the law's numbers -/
namespace FL
open PySem PySem.Spec PyProof.Rows L2
theorem p64 : (2 : Int) ^ 64 = 18446744073709551616 := by decide +kernel
theorem oMul_l' {i j : Int} (h1 : -18446744073709551616 < i) (h2 : i < 18446744073709551616) : oMul (.int i) (.int j) = some (.int (i * j)) := oMul_l (by rw [p64]; exact h1) (by rw [p64]; exact h2)
theorem oMul_r' {i j : Int} (h1 : -18446744073709551616 < j) (h2 : j < 18446744073709551616) : oMul (.int i) (.int j) = some (.int (i * j)) := oMul_r (by rw [p64]; exact h1) (by rw [p64]; exact h2)
theorem oMod_eq {i j : Int} (h : 0 < j) : oMod (.int i) (.int j) = some (.int (i % j)) := by
  simp only [oMod, oInt, if_pos h]
theorem oDiv_eq {i j : Int} (h : 0 < j) (h2 : j < 1073741824) : oDiv (.int i) (.int j) = some (.int (i / j)) := by
  simp only [oDiv, oInt, if_pos (And.intro h h2)]
theorem mixed_eq (a p : Int) : ∃ r : Int, F__law_mixed [.int a, .int p] = some (.ret (.va (.int r))) ∧ (0 ≤ p → 0 ≤ r) := by
  have hr : oRange1 [.int 4] = some ((List.range 4).map fun n => D.int (n : Nat)) := by
    have := oRange1_nat 4 (by omega)
    rw [rangeD_0] at this
    exact this
  obtain ⟨ρ', e1, f, s4, hf0, hf1, rfl⟩ := for_pre0 (n := fuel) (tg := tName 4) (body := fSet 3 (fVa (fOp oMod (fOp oAdd (fOp oAdd (fOp oAdd (fOp oMul (fVarF 3) (fVarF 3)) (fOp oMul (fC (.int 29)) (fVarF 3))) (fOp oMul (fC (.int 4001)) (fVarF 4))) (fVarF 1)) (fVarF 2))))
    (fun _ ρ => ∃ (f : Int) (s4 : Sl), 0 ≤ f ∧ f < 2305843009213693951 ∧ ρ = [.so false (.va (.int a)), .so false (.va (.int p)), .so false (.va (.int 2305843009213693951)), .so false (.va (.int f)), s4])
    (fun n : Nat => D.int (n : Nat)) (List.range 4)
    [.so false (.va (.int a)), .so false (.va (.int p)), .so false (.va (.int 2305843009213693951)), .so false (.va (.int ((a * 1181783497276652981 + p * 2685821657736338717 + 41) % 2305843009213693951))), .no]
    (by
      rintro pr x post ρ e ⟨f, s4, h0, h1, rfl⟩
      refine ⟨_, ?_, (f * f + 29 * f + 4001 * (x : Int) + p) % 2305843009213693951, .so false (.va (.int x)), Int.emod_nonneg _ (by decide), Int.emod_lt_of_pos _ (by decide), rfl⟩
      rw [forStep_name (by simp)]
      have m1 := oMul_l' (i := f) (j := f) (by omega) (by omega)
      have m2 := oMul_l' (i := 29) (j := f) (by decide) (by decide)
      have m3 := oMul_l' (i := 4001) (j := x) (by decide) (by decide)
      have m4 := oMod_eq (i := f * f + 29 * f + 4001 * (x : Int) + p) (j := 2305843009213693951) (by decide)
      simp [m1, m2, m3, m4])
    ⟨_, .no, Int.emod_nonneg _ (by decide), Int.emod_lt_of_pos _ (by decide), rfl⟩
  refine ⟨f * 2305843009213693951 + (f * 48271 + p) % 2305843009213693951, ?_, fun _ => ?_⟩
  · have m1 := oMul_r' (i := a) (j := 1181783497276652981) (by decide) (by decide)
    have m2 := oMul_r' (i := p) (j := 2685821657736338717) (by decide) (by decide)
    have m3 := oMod_eq (i := a * 1181783497276652981 + p * 2685821657736338717 + 41) (j := 2305843009213693951) (by decide)
    have m4 := oMul_l' (i := f) (j := 2305843009213693951) (by omega) (by omega)
    have m5 := oMul_l' (i := f) (j := 48271) (by omega) (by omega)
    have m6 := oMod_eq (i := f * 48271 + p) (j := 2305843009213693951) (by decide)
    simp [F__law_mixed, f__law_mixed, m1, m2, m3, hr, e1, m4, m5, m6]
  · have := Int.emod_nonneg (f * 48271 + p) (b := 2305843009213693951) (by decide)
    omega
def deckW (cells : List Int) (a b c : Int) : W := .ls [lI cells, .int a, .int b, .int c]
structure DeckOk (w : W) : Prop where
  ex : ∃ cells a b c, w = deckW cells a b c ∧ 0 ≤ a ∧ 0 ≤ b
theorem at4_0 (x y z u : D) : atI [x, y, z, u] 0 = some x := (by rfl)
theorem at4_1 (x y z u : D) : atI [x, y, z, u] 1 = some y := (by rfl)
theorem at4_2 (x y z u : D) : atI [x, y, z, u] 2 = some z := (by rfl)
theorem at4_3 (x y z u : D) : atI [x, y, z, u] 3 = some u := (by rfl)
theorem set4_1 (x y z u v : D) : oSetL (.ls [x, y, z, u]) (.int 1) v = some (.ls [x, v, z, u]) := (by rfl)
theorem set4_2 (x y z u v : D) : oSetL (.ls [x, y, z, u]) (.int 2) v = some (.ls [x, y, v, u]) := (by rfl)
theorem set4_3 (x y z u v : D) : oSetL (.ls [x, y, z, u]) (.int 3) v = some (.ls [x, y, z, v]) := (by rfl)
@[simp] theorem intC (i : Int) : oIntC [.int i] = some (.int i) := (rfl)
theorem pow16 : oPow (.int 10) (.int 16) = some (.int 10000000000000000) := by
  simp only [oPow, oInt]
  rw [if_pos (by decide +kernel)]
  exact congrArg (fun x => some (D.int x)) (by decide +kernel)
theorem ix_lI_get (cells : List Int) (hc : cells ≠ []) (h : ∀ x ∈ cells, 0 ≤ x) (a : Int) : ∃ m : Int, 0 ≤ m ∧ oIx (lI cells) (.int (a % cells.length)) = some (.int m) := by
  have h1 : 0 < cells.length := List.length_pos_iff.mpr hc
  have h2 := Int.emod_nonneg a (b := cells.length) (by omega)
  have h3 := Int.emod_lt_of_pos a (b := cells.length) (by omega)
  obtain ⟨j, hj⟩ := Int.eq_ofNat_of_zero_le h2
  rw [hj] at h3 ⊢
  have hlt : j < cells.length := by omega
  exact ⟨at0 cells j, at0_nonneg h j, ix_lI cells j hlt⟩
end FL
set_option Elab.async false
set_option linter.all false
set_option maxRecDepth 100000
set_option maxHeartbeats 1000000
/-! E14: numbers drawn -/
namespace FL
open PySem PySem.Spec PyProof.Rows L2
inductive Deck : W → Prop
  | mk {cells : List Int} {a b c : Int} : (∀ x ∈ cells, 0 ≤ x) → 0 ≤ a → 0 ≤ b → Deck (deckW cells a b c)
def blIf : F W := fIf (fT (fOp oNe (fVarF 4) (fFrz (fLst aNil)))) (fVa (fOp oIx (fVarF 4) (fOp oMod (fVarF 5) (fCall oLen (aCons (fVarF 4) aNil))))) (fVa (fC (.int 0)))
def blRe : FS := fSeq (fPar 4 5 (fVa (fIxO 0 (fC (.int 0)))) (fVa (fIxO 0 (fC (.int 1)))))
  (fSeq (fSet 3 blIf)
  (fSeq (fIfS (gOr (fT (fOp oGe (fVarF 5) (fCall oLen (aCons (fVarF 4) aNil)))) (fT (fOp oLt (fVarF 3) (fOp oPow (fC (.int 10)) (fC (.int 16)))))) (fSet 3 (fCallP F__law_mixed (aCons (fOp oMod (fCall oIntC (aCons (fVarF 3) aNil)) (fC (.int 998244353))) (aCons (fVarF 5) aNil)))) fNx)
  (fSeq (fPut 0 oSetL (fOp oAdd (fVarF 5) (fC (.int 1))) (fC (.int 1)))
  (fSeq (fPut 0 oSetL (fVarF 3) (fC (.int 2)))
  (fPut 0 oSetL (fVarF 3) (fC (.int 3)))))))
theorem F_below_un : F__law_below = runI 2 6 (fSeq (fIfS (fT (fOp oLt (fIxO 0 (fC (.int 3))) (fVarF 1))) blRe fNx)
  (fSeq (fSet 2 (fVa (fOp oMod (fCall oIntC (aCons (fIxO 0 (fC (.int 2))) aNil)) (fVarF 1))))
  (fSeq (fPut 0 oSetL (fOp oDiv (fIxO 0 (fC (.int 2))) (fVarF 1)) (fC (.int 2)))
  (fSeq (fPut 0 oSetL (fOp oDiv (fIxO 0 (fC (.int 3))) (fVarF 1)) (fC (.int 3)))
  (fRet (fMov 2)))))) := rfl
theorem blRe_eq {cells : List Int} {a b c : Int} {s1 s2 s3 s4 s5 : Sl} (n : Nat) (hc : ∀ x ∈ cells, 0 ≤ x) (ha : 0 ≤ a) :
    ∃ m s3' s4' s5', 0 ≤ m ∧ blRe n [.so true (deckW cells a b c), s1, s2, s3, s4, s5] = some (.nx [.so true (deckW cells (a + 1) m m), s1, s2, s3', s4', s5']) := by
  obtain ⟨m0, h0, hm0, e0⟩ : ∃ m0 : Int, 0 ≤ m0 ∧ True ∧ blIf [.so true (deckW cells a b c), s1, s2, s3, .so false (.va (lI cells)), .so false (.va (.int a))] = some (.ok (.va (.int m0)) [.so true (deckW cells a b c), s1, s2, s3, .so false (.va (lI cells)), .so false (.va (.int a))]) := by
    by_cases h : cells = []
    · subst h
      refine ⟨0, Int.le_refl 0, trivial, ?_⟩
      simp [blIf, szl0]
    · obtain ⟨m, h1, h2⟩ := ix_lI_get cells h hc a
      refine ⟨m, h1, trivial, ?_⟩
      have := oMod_eq (i := a) (j := cells.length) (by have := List.length_pos_iff.mpr h; omega)
      simp [blIf, szl0, h, this, h2]
  have mm := oMod_eq (i := m0) (j := 998244353) (by decide)
  obtain ⟨r, e1, e2⟩ := mixed_eq (m0 % 998244353) a
  by_cases h1 : (cells.length : Int) ≤ a
  · refine ⟨r, .so false (.va (.int r)), .so false (.va (lI cells)), .so false (.va (.int a)), e2 ha, ?_⟩
    simp only [deckW] at e0
    simp [blRe, deckW, e_IxO, at4_0, at4_1, e0, h1, mm, e1, e_put, set4_1, set4_2, set4_3]
  · by_cases h2 : m0 < 10000000000000000
    · refine ⟨r, .so false (.va (.int r)), .so false (.va (lI cells)), .so false (.va (.int a)), e2 ha, ?_⟩
      simp only [deckW] at e0
      simp [blRe, deckW, e_IxO, at4_0, at4_1, e0, h1, pow16, h2, mm, e1, e_put, set4_1, set4_2, set4_3]
    · refine ⟨m0, .so false (.va (.int m0)), .so false (.va (lI cells)), .so false (.va (.int a)), h0, ?_⟩
      simp only [deckW] at e0
      simp [blRe, deckW, e_IxO, at4_0, at4_1, e0, h1, pow16, h2, mm, e1, e_put, set4_1, set4_2, set4_3]
theorem below_eq {dk : W} (hd : Deck dk) {k : Int} (h1 : 1 ≤ k) (h2 : k < 1073741824) : ∃ r dk', 0 ≤ r ∧ r < k ∧ Deck dk' ∧ F__law_below dk [.int k] = some (.ret (.va (.int r)) dk') := by
  obtain ⟨hc, ha, hb⟩ := hd
  rename_i cells a b c
  by_cases h : c < k
  · obtain ⟨m, s3, s4, s5, hm, e⟩ := blRe_eq (cells := cells) (a := a) (b := b) (c := c) (s1 := .so false (.va (.int k))) (s2 := .no) (s3 := .no) (s4 := .no) (s5 := .no) fuel hc ha
    have m1 := oMod_eq (i := m) (j := k) (by omega)
    have m2 := oDiv_eq (i := m) (j := k) (by omega) h2
    refine ⟨m % k, deckW cells (a + 1) (m / k) (m / k), Int.emod_nonneg _ (by omega), Int.emod_lt_of_pos _ (by omega), .mk hc (by omega) (Int.ediv_nonneg hm (by omega)), ?_⟩
    rw [F_below_un]
    simp only [deckW] at e
    simp [deckW, e_IxO, at4_3, h, e, at4_2, m1, m2, e_put, set4_2, set4_3]
  · have m1 := oMod_eq (i := b) (j := k) (by omega)
    have m2 := oDiv_eq (i := b) (j := k) (by omega) h2
    have m3 := oDiv_eq (i := c) (j := k) (by omega) h2
    refine ⟨b % k, deckW cells a (b / k) (c / k), Int.emod_nonneg _ (by omega), Int.emod_lt_of_pos _ (by omega), .mk hc (by omega) (Int.ediv_nonneg hb (by omega)), ?_⟩
    rw [F_below_un]
    simp [deckW, e_IxO, at4_3, h, at4_2, m1, m2, m3, e_put, set4_2, set4_3]
theorem pick_eq {dk : W} (hd : Deck dk) {ds : List D} (h1 : ds ≠ []) (h2 : ds.length < 1073741824) : ∃ d dk', d ∈ ds ∧ Deck dk' ∧ F__law_pick dk [.lst ds] = some (.ret (.va d) dk') := by
  have := List.length_pos_iff.mpr h1
  obtain ⟨r, dk', a, b, c, e⟩ := below_eq hd (k := ds.length) (by omega) (by omega)
  obtain ⟨j, rfl⟩ := Int.eq_ofNat_of_zero_le a
  have hj : j < ds.length := by omega
  have ix : oIx (.lst ds) (.int j) = some ds[j] := by simp [oIx, oIxT, atI_nat, hj]
  refine ⟨ds[j], dk', List.getElem_mem hj, c, ?_⟩
  simp [F__law_pick, f__law_pick, e_CallI, lenL, e, ix]
end FL
set_option Elab.async false
set_option linter.all false
set_option maxRecDepth 100000
set_option maxHeartbeats 1000000
/-! E15: the deck; rows by the law -/
namespace FL
open PySem PySem.Spec PyProof.Rows L2
theorem enum_ints : ∀ (l : List Int) (s : Nat), enumD s (l.map .int) = (l.zipIdx s).map fun p : Int × Nat => D.tup [.int p.2, .int p.1]
  | [], s => rfl
  | x :: xs, s => by
    rw [List.map_cons, enumD, enum_ints xs (s + 1), List.zipIdx_cons, List.map_cons]
theorem cut_take {xs : List D} (k : Nat) : cutD xs none (some (k : Int)) = xs.take k := by
  unfold cutD
  rw [HT.sIx_none, HT.sIx_nat, List.drop_zero, Nat.sub_zero]
  by_cases h : k ≤ xs.length
  · rw [Nat.min_eq_left h]
  · rw [Nat.min_eq_right (by omega), List.take_of_length_le (Nat.le_refl _), List.take_of_length_le (by omega)]
theorem cut_drop {xs : List D} (k m : Nat) (h : xs.length ≤ m) : cutD xs (some (k : Int)) (some (m : Int)) = xs.drop k := by
  unfold cutD
  rw [HT.sIx_nat, HT.sIx_nat, Nat.min_eq_right h]
  by_cases h2 : k ≤ xs.length
  · rw [Nat.min_eq_left h2, List.take_of_length_le (by simp)]
  · rw [Nat.min_eq_right (by omega), List.drop_of_length_le (Nat.le_refl _), List.drop_of_length_le (by omega), List.take_nil]
theorem cut_drop1 {xs : List D} : cutD xs (some 1) none = xs.drop 1 := by
  unfold cutD
  rw [show (1 : Int) = ((1 : Nat) : Int) from rfl, HT.sIx_nat, HT.sIx_none]
  cases xs with
  | nil => rfl
  | cons x xs => rw [Nat.min_eq_left (by simp), List.take_of_length_le (by simp)]
theorem cut_init {xs : List D} : cutD xs none (some (-1)) = xs.dropLast := by
  unfold cutD
  rw [HT.sIx_none, List.drop_zero, Nat.sub_zero, List.dropLast_eq_take]
  have : HT.sIx xs.length xs.length (some (-1)) = xs.length - 1 := by
    unfold HT.sIx
    simp only
    rw [if_pos (by decide)]
    omega
  rw [this]
theorem abs_eq (i : Int) : oAbs [.int i] = some (.int (if i < 0 then -i else i)) := rfl
theorem setL_nat (xs : List D) (j : Nat) (d : D) (h : j < xs.length) : oSetL (.ls xs) (.int j) d = some (.ls (xs.set j d)) := by
  simp only [oSetL, ixN]
  rw [if_pos (by omega), if_pos (by omega)]
  rfl
theorem at_ints (l : List Int) (j : Nat) (h : j < l.length) : atI (l.map D.int) (j : Int) = some (.int (at0 l j)) := by
  rw [atI_nat]
  simp [at0, h]
theorem deck_of_eq (ns : List Int) (hn : ns.length ≤ 63) : ∃ dk, Deck dk ∧ F__law_deck_of [.xls (ns.map .int)] = some (.ret dk) := by
  have s1 : oSlL (.xls (ns.map .int)) none (some 16) = some ((ns.take 16).map .int) := by
    rw [List.map_take]
    exact congrArg some (cut_take 16)
  have s2 : oSlL (.xls (ns.map .int)) (some 16) (some 63) = some ((ns.drop 16).map .int) := by
    rw [List.map_drop]
    exact congrArg some (cut_drop 16 63 (by simpa using hn))
  have sz : 16 ≤ sizeLine := le_sz (by omega)
  obtain ⟨ρ', e1, cells, s2', s3', hl, hc, rfl⟩ := for_pre0 (n := fuel) (tg := tTuple 2 (tsCons (tName 2) (tsCons (tName 3) tsNil))) (body := fPut 1 oSetL (fOp oAdd (fIxO 1 (fOp oMod (fVarF 2) (fC (.int 16)))) (fCall oAbs (aCons (fVarF 3) aNil))) (fOp oMod (fVarF 2) (fC (.int 16))))
    (fun _ ρ => ∃ (cells : List Int) (s2 s3 : Sl), cells.length = (ns.take 16).length ∧ (∀ x ∈ cells, 0 ≤ x) ∧ ρ = [.so false (.va (.xls (ns.map .int))), .so false (.ls (cells.map .int)), s2, s3])
    (fun p : Int × Nat => D.tup [.int p.2, .int p.1]) ((ns.drop 16).zipIdx 0)
    [.so false (.va (.xls (ns.map .int))), .so false (.ls (((ns.take 16).map fun i => if i < 0 then -i else i).map .int)), .no, .no]
    (by
      rintro pr x post ρ e ⟨cells, s2, s3, hl, hc, rfl⟩
      have h16 : cells.length = 16 := by
        have := congrArg List.length e
        simp at this
        rw [hl, List.length_take]
        omega
      have hj : x.2 % 16 < cells.length := by omega
      refine ⟨[.so false (.va (.xls (ns.map .int))), .so false (.ls ((cells.set (x.2 % 16) (at0 cells (x.2 % 16) + (if x.1 < 0 then -x.1 else x.1))).map .int)), .so false (.va (.int x.2)), .so false (.va (.int x.1))], ?_, _, _, _, by rw [List.length_set]; exact hl, ?_, rfl⟩
      · have m := oMod_eq (i := (x.2 : Int)) (j := 16) (by decide)
        have mc : ((x.2 : Int) % 16) = ((x.2 % 16 : Nat) : Int) := by omega
        rw [mc] at m
        have a := at_ints cells (x.2 % 16) hj
        have st := setL_nat (cells.map .int) (x.2 % 16) (.int (at0 cells (x.2 % 16) + (if x.1 < 0 then -x.1 else x.1))) (by simpa using hj)
        generalize x.2 % 16 = j at *
        simp [forStep, e_put, e_IxO, m, a, abs_eq, st, List.map_set]
      · intro y hy
        rcases List.mem_or_eq_of_mem_set hy with h | h
        · exact hc y h
        · have := at0_nonneg hc (x.2 % 16)
          subst h
          split <;> omega)
    ⟨_, .no, .no, by simp, by
      intro x hx
      obtain ⟨y, _, rfl⟩ := List.mem_map.mp hx
      split <;> omega, rfl⟩
  refine ⟨deckW cells 0 0 0, .mk hc (Int.le_refl 0) (Int.le_refl 0), ?_⟩
  have sz4 : 4 ≤ sizeLine := le_sz (by omega)
  have lt : (ns.take 16).length ≤ sizeLine := le_sz (by rw [List.length_take]; omega)
  generalize ns.take 16 = A at *
  generalize ns.drop 16 = B at *
  rw [← enum_ints] at e1
  simp [F__law_deck_of, f__law_deck_of, s1, lt]
  rw [lc_map1 (fun i : Int => D.int i) (fun i => D.int (if i < 0 then -i else i))]
  · rw [List.map_map] at e1
    simp only [Function.comp_def] at e1
    simp [s2, e1, sz4, deckW]
  · intro x hx
    simp [lcStep, abs_eq]
end FL
set_option Elab.async false
set_option linter.all false
set_option maxRecDepth 100000
set_option maxHeartbeats 1000000
/-! E16: the law's own neighbours -/
namespace FL
open PySem PySem.Spec PyProof.Rows L2
theorem oMul_lst (xs : List D) (k : Int) : oMul (.lst xs) (.int k) = ((oRep (.lst xs) (.int k)).map .lst).or (oRepT (.lst xs) (.int k)) := by
  unfold oMul
  have : oMulI (.lst xs) (.int k) = none := rfl
  rw [this, Option.none_or]
theorem oRep_lst (xs : List D) (m : Nat) (h : xs.length * m ≤ sizeLine) (h2 : m ≤ 10000000) : oRep (.lst xs) (.int m) = some (List.replicate m xs).flatten := by
  have h4 : (2 : Int) ^ 63 = 9223372036854775808 := by decide +kernel
  rw [oRep.eq_1, h4, if_pos ⟨by omega, by omega, h⟩, Int.toNat_natCast]
theorem rep_lI (xs : List Int) (m : Nat) (h : xs.length * m ≤ 10000000) (h2 : m ≤ 10000000) : oMul (lI xs) (.int m) = some (lI (List.replicate m xs).flatten) := by
  have h3 : (xs.map D.int).length * m ≤ sizeLine := le_sz (by rw [List.length_map]; exact h)
  unfold lI
  rw [oMul_lst, oRep_lst _ _ h3 h2, Option.map_some, Option.some_or, ← List.map_replicate, ← List.map_flatten]
theorem rep_0 (m : Nat) (h2 : m ≤ 10000000) : oMul (lI [0]) (.int m) = some (lI (List.replicate m 0)) := by
  rw [rep_lI [0] m (by rw [List.length_singleton]; omega) h2]
  refine congrArg (fun x => some (lI x)) ?_
  induction m with
  | zero => rfl
  | succ m ih => rw [List.replicate_succ, List.flatten_cons, ih (by omega), List.replicate_succ]; rfl
theorem rep_1 (x : Int) : oMul (lI [x]) (.int 1) = some (lI [x]) := rep_lI [x] 1 (by simp) (by omega)
theorem rep_n (x : Int) : oMul (lI [x]) (.int 0) = some (lI []) := rep_lI [x] 0 (by simp) (by omega)
@[simp] theorem intB (b : Bool) : oIntC [.bl b] = some (.int (if b then 1 else 0)) := (rfl)
theorem for_name {i n : Nat} {body : FS} {d : D} {ρ ρ' : Rho} (h : i < ρ.length) (e : body n (ρ.set i (.so false (.va d))) = some (.nx ρ')) : forStep (tName i) body n d ρ = some (.nx ρ') := (forStep_name h).trans e
def vL (e : Ent) : D := .int e.2.2
theorem max2_nat (n m : Nat) : oMax2 [.int n, .int m] = some (.int (max n m : Nat)) := by
  simp only [oMax2]
  by_cases h : n < m
  · rw [if_pos (by omega), Nat.max_eq_right (by omega)]
  · rw [if_neg (by omega), Nat.max_eq_left (by omega)]
theorem oMax_2 (n m : Nat) : oMax [.int n, .int m] = some (.int (max n m : Nat)) := by
  rw [oMax, max2_nat]
  rfl
end FL
set_option Elab.async false
set_option linter.all false
set_option maxRecDepth 100000
set_option maxHeartbeats 1000000
/-! E19: drawn kinds, bounds, layouts -/
namespace FL
open PySem PySem.Spec PyProof.Rows L2
theorem eraseMap {α β : Type} (f : α → β) : ∀ (l : List α) (i : Nat), (l.map f).eraseIdx i = (l.eraseIdx i).map f
  | [], _ => rfl
  | x :: xs, 0 => rfl
  | x :: xs, i + 1 => by simp [eraseMap f xs i]
theorem erasePerm {α : Type} : ∀ (l : List α) (i : Nat) (h : i < l.length), (l[i] :: l.eraseIdx i).Perm l
  | [], _, h => by simp at h
  | x :: xs, 0, h => by simp
  | x :: xs, i + 1, h => by
    have := erasePerm xs i (by simpa using h)
    simp only [List.getElem_cons_succ, List.eraseIdx_cons_succ]
    exact (List.Perm.swap _ _ _).trans (List.Perm.cons x this)
theorem popAt_nat (xs : List D) (j : Nat) (h : j < xs.length) (h2 : xs.length < 1000000000) : oPopAt (.ls xs) [.int j] = some (.va xs[j], .ls (xs.eraseIdx j)) := by
  have h4 : (2 : Int) ^ 63 = 9223372036854775808 := by decide +kernel
  have : seqIndex? (j : Int) xs.length = some j := by
    unfold seqIndex?
    simp only
    rw [if_neg (show ¬((j : Int) < 0) by omega)]
    simp [h]
  rw [oPopAt.eq_1, h4, if_pos ⟨by omega, by omega⟩, this]
  simp [h]
def kindL1 : List D := [.int 2, .int 2, .int 2, .int 3, .int 4]
def kindL2 : List D := [.int 0, .int 0, .int 1, .int 1, .int 2, .int 3, .int 4]
theorem kindL1_mem {d : D} (h : d ∈ kindL1) : ∃ p : Int, d = .int p ∧ 2 ≤ p ∧ p ≤ 4 := by
  simp only [kindL1, List.mem_cons, List.not_mem_nil, or_false] at h
  rcases h with rfl | rfl | rfl | rfl | rfl <;> exact ⟨_, rfl, by decide, by decide⟩
theorem kindL2_mem {d : D} (h : d ∈ kindL2) : ∃ p : Int, d = .int p ∧ 0 ≤ p ∧ p ≤ 4 := by
  simp only [kindL2, List.mem_cons, List.not_mem_nil, or_false] at h
  rcases h with rfl | rfl | rfl | rfl | rfl | rfl | rfl <;> exact ⟨_, rfl, by decide, by decide⟩
def skAdd : FS := fDrop (fOwn 2 isLs oAppend (aCons (fFrz (fCallI 0 F__law_pick (aCons (fFrz (fLst (aCons (fC (.int 0)) (aCons (fC (.int 0)) (aCons (fC (.int 1)) (aCons (fC (.int 1)) (aCons (fC (.int 2)) (aCons (fC (.int 3)) (aCons (fC (.int 4)) aNil))))))))) aNil))) aNil))
def skC : F Bool := gPeek (fT (fOp oNe (fVarF 2) (fFrz (fLst aNil))))
def skB : FS := fSeq (fSet 6 (fOwn 4 isLs oPopAt (aCons (fFrz (fCallI 0 F__law_below (aCons (fPeek (fCall oLen (aCons (fVarF 4) aNil))) aNil))) aNil)))
  (fDrop (fOwn 5 isLs oAppend (aCons (fTup (aCons (fVarF 6) (aCons (fFrz (fOwn 2 isLs oPopAt (aCons (fFrz (fCallI 0 F__law_below (aCons (fPeek (fCall oLen (aCons (fVarF 2) aNil))) aNil))) aNil))) aNil))) aNil)))
theorem F_some_kind_un : F__law_some_kind = runI 2 7 (fSeq (fSet 2 (fLst (aCons (fC (.int 0)) (aCons (fFrz (fCallI 0 F__law_pick (aCons (fFrz (fLst (aCons (fC (.int 2)) (aCons (fC (.int 2)) (aCons (fC (.int 2)) (aCons (fC (.int 3)) (aCons (fC (.int 4)) aNil))))))) aNil))) aNil))))
  (fSeq (fFor (fIt oRange1 (aCons (fFrz (fCallI 0 F__law_below (aCons (fOp oSub (fVarF 1) (fC (.int 1))) aNil))) aNil)) (tName 3) skAdd)
  (fSeq (fPar 4 5 (fLst (aCons (fC (.str "leaf")) (aCons (fC (.str "join")) (aCons (fC (.str "a")) (aCons (fC (.str "z9")) (aCons (fC (.str "node")) (aCons (fC (.str "b2b")) (aCons (fC (.str "tip")) (aCons (fC (.str "eightabc")) aNil))))))))) (fLst aNil))
  (fSeq (whileF skC skB) (fRet (fVa (fCall oTuple (aCons (fVarF 5) aNil)))))))) := rfl
structure PsOk (ps : List Int) : Prop where
  b : ∀ p ∈ ps, 0 ≤ p ∧ p ≤ 4
  z : (0 : Int) ∈ ps
  t : ∃ p ∈ ps, 2 ≤ p
theorem sz5 : 5 ≤ sizeLine := by decide
theorem sz7 : 7 ≤ sizeLine := by decide
theorem sz8 : 8 ≤ sizeLine := by decide
theorem skAdd_eq {dk : W} (hd : Deck dk) {ps : List Int} (h : PsOk ps) (hl : ps.length < 100) (n : Nat) (s1 s3 s4 s5 s6 : Sl) : ∃ dk' ps', Deck dk' ∧ PsOk ps' ∧ ps'.length = ps.length + 1 ∧
    skAdd n [.so true dk, s1, .so false (.ls (ps.map .int)), s3, s4, s5, s6] = some (.nx [.so true dk', s1, .so false (.ls (ps'.map .int)), s3, s4, s5, s6]) := by
  obtain ⟨d, dk', hm, hd', e⟩ := pick_eq hd (ds := kindL2) (by simp [kindL2]) (by decide)
  obtain ⟨p, rfl, p0, p4⟩ := kindL2_mem hm
  refine ⟨dk', ps ++ [p], hd', ⟨?_, List.mem_append_left _ h.z, ?_⟩, by simp, ?_⟩
  · intro q hq
    rcases List.mem_append.mp hq with hq | hq
    · exact h.b q hq
    · rw [List.mem_singleton] at hq; omega
  · obtain ⟨q, h1, h2⟩ := h.t
    exact ⟨q, List.mem_append_left _ h1, h2⟩
  · have l3 : (ps.map D.int).length < sizeLine := lt_sz (by rw [List.length_map]; omega)
    unfold kindL2 at e
    simp [skAdd, e_Own, e_CallI, sz7, e, append_eq _ _ l3]
theorem skB_eq {dk : W} (hd : Deck dk) {ps : List Int} {ts : List Str} {fd : List (Str × Int)} (h1 : ps ≠ []) (h2 : ts ≠ []) (l1 : ps.length < 100) (l2 : ts.length < 100) (l3 : fd.length < 100) (n : Nat) (s1 s3 s6 : Sl) :
    ∃ dk' ps' ts' x p s6', Deck dk' ∧ (p :: ps').Perm ps ∧ (x :: ts').Perm ts ∧
    skB n [.so true dk, s1, .so false (.ls (ps.map .int)), s3, .so false (.ls (ts.map .str)), .so false (.ls (fd.map vD)), s6] = some (.nx [.so true dk', s1, .so false (.ls (ps'.map .int)), s3, .so false (.ls (ts'.map .str)), .so false (.ls ((fd ++ [(x, p)]).map vD)), s6']) := by
  have n1 := List.length_pos_iff.mpr h1
  have n2 := List.length_pos_iff.mpr h2
  obtain ⟨r, dk1, a1, b1, c1, e1⟩ := below_eq hd (k := ts.length) (by omega) (by omega)
  obtain ⟨i, rfl⟩ := Int.eq_ofNat_of_zero_le a1
  obtain ⟨r, dk2, a2, b2, c2, e2⟩ := below_eq c1 (k := ps.length) (by omega) (by omega)
  obtain ⟨j, rfl⟩ := Int.eq_ofNat_of_zero_le a2
  have hi : i < ts.length := by omega
  have hj : j < ps.length := by omega
  have p1 := popAt_nat (ts.map D.str) i (by simpa using hi) (by rw [List.length_map]; omega)
  have p2 := popAt_nat (ps.map D.int) j (by simpa using hj) (by rw [List.length_map]; omega)
  have l4 : (fd.map vD).length < sizeLine := lt_sz (by rw [List.length_map]; omega)
  refine ⟨dk2, ps.eraseIdx j, ts.eraseIdx i, ts[i], ps[j], .so false (.va (.str ts[i])), c2, erasePerm ps j hj, erasePerm ts i hi, ?_⟩
  rw [List.getElem_map] at p1 p2
  rw [eraseMap] at p1 p2
  simp [skB, e_Own, e_CallI, lenL, e1, p1, e2, p2, sz2, append_eq _ _ l4, vD]
theorem tags_nd : tagsL.Nodup := by decide +kernel
theorem oTuple_l (xs : List D) : oTuple [.lst xs] = some (.tup xs) := (rfl)
theorem F_some_kind_eq {dk : W} (hd : Deck dk) {m : Int} (h1 : 2 ≤ m) (h2 : m ≤ 8) : ∃ dk' kd, Deck dk' ∧ GoodK kd ∧ kd.length ≤ m ∧ F__law_some_kind dk [.int m] = some (.ret (.va (kD2 kd)) dk') := by
  obtain ⟨d, dk1, hm, hd1, e1⟩ := pick_eq hd (ds := kindL1) (by simp [kindL1]) (by decide)
  obtain ⟨p0, rfl, p02, p04⟩ := kindL1_mem hm
  obtain ⟨r, dk2, a2, b2, hd2, e2⟩ := below_eq hd1 (k := m - 1) (by omega) (by omega)
  obtain ⟨r, rfl⟩ := Int.eq_ofNat_of_zero_le a2
  have hr : r ≤ 6 := by omega
  have rg := oRange1_nat r (by omega)
  rw [rangeD_0] at rg
  obtain ⟨ρ1, e3, dk3, ps, s3, hd3, hps, hpl, rfl⟩ := for_pre0 (n := fuel) (tg := tName 3) (body := skAdd)
    (fun pr ρ => ∃ dk ps s3, Deck dk ∧ PsOk ps ∧ ps.length = 2 + pr.length ∧ ρ = [.so true dk, .so false (.va (.int m)), .so false (.ls (ps.map .int)), s3, .no, .no, .no])
    (fun n : Nat => D.int (n : Nat)) (List.range r) [.so true dk2, .so false (.va (.int m)), .so false (.ls [.int 0, .int p0]), .no, .no, .no, .no]
    (by
      rintro pr x post ρ e ⟨dk, ps, s3, hd, hp, hl, rfl⟩
      have hpr : pr.length ≤ r := by
        have := congrArg List.length e
        simp at this
        omega
      obtain ⟨dk', ps', q1, q2, q3, q4⟩ := skAdd_eq hd hp (by omega) fuel (.so false (.va (.int m))) (.so false (.va (.int x))) .no .no .no
      exact ⟨_, for_name (by simp) q4, dk', ps', _, q1, q2, by rw [q3, List.length_append, hl]; simp; omega, rfl⟩)
    ⟨dk2, [0, p0], .no, hd2, ⟨by intro p hp; simp at hp; omega, by simp, p0, by simp, p02⟩, rfl, rfl⟩
  rw [List.length_range] at hpl
  have hf := fuel_gt
  obtain ⟨ρ2, ⟨dk4, ps', ts, fd, s6, hd4, l1, l2, l3, pm1, pm2, rfl⟩, e4⟩ := while_inv (c := skC) (body := skB)
    (fun j ρ => ∃ dk ps' ts fd s6, Deck dk ∧ ps'.length + j = ps.length ∧ ts.length + j = 8 ∧ fd.length = j ∧ (fd.map (·.2) ++ ps').Perm ps ∧ (fd.map (·.1) ++ ts).Perm tagsL ∧
      ρ = [.so true dk, .so false (.va (.int m)), .so false (.ls (ps'.map .int)), s3, .so false (.ls (ts.map .str)), .so false (.ls (fd.map vD)), s6])
    ps.length fuel 0 [.so true dk3, .so false (.va (.int m)), .so false (.ls (ps.map .int)), s3, .so false (.ls (tagsL.map .str)), .so false (.ls []), .no] (by omega)
    (by
      rintro j ρ - hj ⟨dk, ps', ts, fd, s6, hd, l1, l2, l3, pm1, pm2, rfl⟩
      have n1 : ps' ≠ [] := by intro h; subst h; simp at l1; omega
      have n2 : ts ≠ [] := by intro h; subst h; simp at l2; omega
      refine ⟨[.so true dk, .so false (.va (.int m)), .so false (.ls (ps'.map .int)), s3, .so false (.ls (ts.map .str)), .so false (.ls (fd.map vD)), s6], by simp [skC, szl0, n1], fun n => ?_⟩
      obtain ⟨dk', ps2, ts2, x, p, s6', q1, q2, q3, q4⟩ := skB_eq (fd := fd) hd n1 n2 (by omega) (by omega) (by omega) n (.so false (.va (.int m))) s3 s6
      have k1 := q2.length_eq
      have k2 := q3.length_eq
      simp only [List.length_cons] at k1 k2
      refine ⟨_, q4, dk', ps2, ts2, fd ++ [(x, p)], s6', q1, by omega, by omega, by simp [l3], ?_, ?_, rfl⟩
      · rw [List.map_append, List.append_assoc]
        exact (List.Perm.append_left _ q2).trans pm1
      · rw [List.map_append, List.append_assoc]
        exact (List.Perm.append_left _ q3).trans pm2)
    ⟨dk3, ps, tagsL, [], .no, hd3, by simp, by decide, rfl, by simp, by simp, rfl⟩
  have z : ps' = [] := List.eq_nil_of_length_eq_zero (by omega)
  subst z
  have e5 := e4 _ (by simp [skC, szl0]; rfl)
  rw [List.append_nil] at pm1
  have fl : fd.length = ps.length := by omega
  refine ⟨dk4, fd, hd4, ⟨by omega, by omega, ?_, ?_, ?_, ?_, ?_⟩, by omega, ?_⟩
  · intro p hp
    exact pm2.mem_iff.mp (List.mem_append_left _ (List.mem_map_of_mem hp))
  · exact (List.nodup_append.mp ((pm2.nodup_iff).mpr tags_nd)).1
  · intro p hp
    exact hps.b p (pm1.mem_iff.mp hp)
  · exact pm1.mem_iff.mpr hps.z
  · obtain ⟨p, q1, q2⟩ := hps.t
    exact ⟨p, pm1.mem_iff.mpr q1, q2⟩
  · unfold kindL1 at e1
    simp only [tagsL, List.map_cons, List.map_nil] at e5
    rw [F_some_kind_un]
    simp [e_CallI, sz5, sz2, e1, e2, rg, e3, sz8, szl0, e5, oTuple_l, kD2]
end FL
set_option Elab.async false
set_option linter.all false
set_option maxRecDepth 100000
set_option maxHeartbeats 1000000
/-! Y9: rules for locked dicts; price_paper, closed_paper -/
namespace FL
open PySem PySem.Spec PyProof.Rows L2
section
variable {α β : Type} {ρ : Rho}
@[simp] theorem e_New {w : W} : fNew w ρ = some (.ok w ρ) := (rfl)
@[simp] theorem e_Keys {fa : F D} : fKeys fa ρ = bnd (fa ρ) fun d => F.of (keysL? d) := (rfl)
@[simp] theorem e_Itms {fa : F D} : fItms fa ρ = bnd (fa ρ) fun d => F.of (itemsL? d) := (rfl)
@[simp] theorem e_VarL {i : Nat} : fVarL i ρ = match ρ[i]? with
  | some (.so false (.dt kds)) => some (.ok (.ldt kds) (ρ.set i (.so false (.va (.ldt kds)))))
  | _ => fVarF i ρ := (rfl)
@[simp] theorem e_Dc {fi : F (List D)} {tg : D → Rho → Option Rho} {gt : F Bool} {fk fv : F D} {vs : List Nat} : fDc fi tg gt fk fv vs ρ = bnd (fi ρ) fun ds ρ => if ds.length < sizeLine then (dcLoop tg gt fk fv vs ds [] ρ).map fun p => .ok (.dt p.1) p.2 else none := (rfl)
@[simp] theorem e_Lc2 {fi fi1 : F (List D)} {tg tg1 : D → Rho → Option Rho} {gt gt1 : F Bool} {fe : F D} {vs vs1 : List Nat} : fLc2 fi tg gt fi1 tg1 gt1 fe vs vs1 ρ = bnd (fi ρ) fun ds ρ => (lc2Loop tg gt fi1 tg1 gt1 fe vs vs1 ds [] ρ).map fun p => .ok (.ls p.1) p.2 := (rfl)
@[simp] theorem keysL_l {kds : List (List Key × D)} : keysL? (.ldt kds) = some (keysD kds) := (rfl)
@[simp] theorem itemsL_l {kds : List (List Key × D)} : itemsL? (.ldt kds) = some (itemsD kds) := (rfl)
@[simp] theorem isDct_l {kds : List (List Key × D)} : isDct (.ldt kds) = true := (rfl)
def dget2 (x : D) (fk fz : F D) : F D := if isDct x then fk.bind fun y => fz.bind fun z => F.of ((dget? x y).map fun o => o.getD z) else fun _ => none
@[simp] theorem e_DGet2 {fd fk fz : F D} : fDGet2 fd fk fz ρ = bnd (fd ρ) fun x => dget2 x fk fz := (rfl)
@[simp] theorem dget2_l {kds : List (List Key × D)} {fk fz : F D} : dget2 (.ldt kds) fk fz ρ = bnd (fk ρ) fun y => fz.bind fun z => F.of ((dget? (.ldt kds) y).map fun o => o.getD z) := (rfl)
end
theorem keysD_TD (v : Ent → D) (T : List Ent) : keysD (TD v T) = T.map fun e => tI e.1 := by
  unfold keysD TD
  rw [List.map_map]
  refine List.map_congr_left fun e _ => ?_
  show D.tup ((keyI e.1).map kD) = tI e.1
  unfold keyI tI
  rw [List.map_map]
  rfl
theorem itemsD_TD (v : Ent → D) (T : List Ent) : itemsD (TD v T) = T.map fun e => .tup [tI e.1, v e] := by
  unfold itemsD TD
  rw [List.map_map]
  refine List.map_congr_left fun e _ => ?_
  show D.tup [D.tup ((keyI e.1).map kD), v e] = .tup [tI e.1, v e]
  unfold keyI tI
  rw [List.map_map]
  rfl
theorem dget_TDl (w : Ent → D) {T : List Ent} (nd : (T.map (·.1)).Nodup) {e : Ent} (h : e ∈ T) : oDGet (.ldt (TD w T)) (tI e.1) = some (w e) := dget_TD w nd h
theorem dgetQ_in (w : Ent → D) {T : List Ent} (nd : (T.map (·.1)).Nodup) {e : Ent} (h : e ∈ T) : dget? (.ldt (TD w T)) (tI e.1) = some (some (w e)) := by
  have h1 : dget? (.ldt (TD w T)) (tI e.1) = some (lookD (TD w T) (keyI e.1)) := by simp only [dget?, tkey_tI, Option.map_some]
  rw [h1, look_TD, find_of nd h]
  rfl
theorem dgetQ_out (w : Ent → D) {T : List Ent} {x : List Int} (h : x ∉ T.map (·.1)) : dget? (.ldt (TD w T)) (tI x) = some none := by
  have h1 : dget? (.ldt (TD w T)) (tI x) = some (lookD (TD w T) (keyI x)) := by simp only [dget?, tkey_tI, Option.map_some]
  have h2 := look_isSome w x T
  rw [decide_eq_false h] at h2
  rw [h1]
  cases q : lookD (TD w T) (keyI x) with
  | none => rfl
  | some d => rw [q] at h2; cases h2
theorem din_TDl (v : Ent → D) (x : List Int) (T : List Ent) (neg : Bool) : oDIn neg (tI x) (.ldt (TD v T)) = some (.bl (if neg then !decide (x ∈ T.map (·.1)) else decide (x ∈ T.map (·.1)))) := by
  simp only [oDIn, dget?, tkey_tI, Option.map_some, look_isSome]
theorem putD_TD (v : Ent → D) (e : Ent) (T : List Ent) (h : e.1 ∉ T.map (·.1)) : putD (TD v T) (keyI e.1) (v e) = TD v (T ++ [e]) := by
  have : ((TD v T).any fun kv => decide (kv.1 = keyI e.1)) = false := by
    rw [List.any_eq_false]
    intro y hy
    unfold TD at hy
    obtain ⟨f, hf, rfl⟩ := List.mem_map.mp hy
    simp only [decide_eq_true_eq, keyI_inj]
    intro z
    exact h (List.mem_map.mpr ⟨f, hf, z⟩)
  simp only [putD, this]
  simp [TD]
/-! ### comprehensions whose names held something before -/
theorem wipeR_get : ∀ {vs : List Nat} {ρ : Rho} {i : Nat}, i ∉ vs → (wipeR ρ vs)[i]? = ρ[i]?
  | [], _, _, _ => rfl
  | v :: vs, ρ, i, h => by
    rw [List.mem_cons, not_or] at h
    unfold wipeR
    rw [List.getElem?_set_ne (fun q => h.1 q.symm)]
    exact wipeR_get h.2
theorem wipeR_in : ∀ {vs : List Nat} {ρ : Rho} {i : Nat}, i ∈ vs → (wipeR ρ vs)[i]? = if i < ρ.length then some .no else none
  | v :: vs, ρ, i, h => by
    unfold wipeR
    by_cases q : v = i
    · subst q
      by_cases l : v < ρ.length
      · rw [List.getElem?_set_self (by rw [wipeR_length]; exact l), if_pos l]
      · rw [List.getElem?_eq_none (by rw [List.length_set, wipeR_length]; omega), if_neg l]
    · rw [List.getElem?_set_ne q]
      refine wipeR_in ?_
      rcases List.mem_cons.mp h with h | h
      · exact absurd h.symm q
      · exact h
theorem wipeR_wipeR (ρ : Rho) (vs : List Nat) : wipeR (wipeR ρ vs) vs = wipeR ρ vs := by
  refine List.ext_getElem? fun i => ?_
  by_cases h : i ∈ vs
  · rw [wipeR_in h, wipeR_in h, wipeR_length]
  · rw [wipeR_get h]
theorem lc_mapW {γ : Type} {tg : D → Rho → Option Rho} {gt : F Bool} {fe : F D} {vs : List Nat} {ρ : Rho} (f : γ → D) (g : γ → Option D) : ∀ (xs : List γ) (acc : List D), (∀ x ∈ xs, lcStep tg gt fe vs (f x) (wipeR ρ vs) = some (g x, wipeR ρ vs)) →
    lcLoop tg gt fe vs (xs.map f) acc ρ = some (acc ++ xs.filterMap g, if xs = [] then ρ else wipeR ρ vs)
  | [], acc, _ => by simp [lcLoop]
  | x :: xs, acc, h => by
    have h1 := h x List.mem_cons_self
    have ih := fun acc => lc_map (tg := tg) (gt := gt) (fe := fe) (vs := vs) (ρ := wipeR ρ vs) f g xs acc fun y hy => h y (List.mem_cons_of_mem _ hy)
    rw [if_neg (by simp), List.map_cons, lcLoop]
    unfold lcStep at h1
    rw [wipeR_wipeR] at h1
    cases q1 : tg (f x) (wipeR ρ vs) with
    | none => rw [q1] at h1; cases h1
    | some ρ1 =>
      rw [q1] at h1
      simp only at h1 ⊢
      cases q2 : gt ρ1 with
      | none => rw [q2] at h1; cases h1
      | some r =>
        rw [q2] at h1
        cases r with
        | ex e ρ2 => cases h1
        | ok b ρ2 =>
          cases b with
          | true =>
            simp only at h1 ⊢
            cases q3 : fe ρ2 with
            | none => rw [q3] at h1; cases h1
            | some r3 =>
              rw [q3] at h1
              cases r3 with
              | ex e ρ3 => cases h1
              | ok d ρ3 =>
                simp only at h1 ⊢
                injection h1 with h1
                injection h1 with e1 e2
                rw [e2, ih]
                simp [← e1]
          | false =>
            simp only at h1 ⊢
            injection h1 with h1
            injection h1 with e1 e2
            rw [e2, ih]
            simp [← e1]
/-- a dict comprehension over entries -/
def dcStep (tg : D → Rho → Option Rho) (gt : F Bool) (fk fv : F D) (vs : List Nat) (x : D) (ρ : Rho) : Option (Option (D × D) × Rho) :=
  match tg x (wipeR ρ vs) with
  | none => none
  | some ρ1 => match gt ρ1 with
    | some (.ok true ρ2) => (match fk ρ2 with
      | some (.ok dk ρ3) => (match fv ρ3 with
        | some (.ok dv ρ4) => some (some (dk, dv), wipeR ρ4 vs)
        | _ => none)
      | _ => none)
    | some (.ok false ρ2) => some (none, wipeR ρ2 vs)
    | _ => none
theorem dc_map {γ : Type} {tg : D → Rho → Option Rho} {gt : F Bool} {fk fv : F D} {vs : List Nat} (v : Ent → D) (f : γ → D) (en : γ → Ent) (p : γ → Bool) : ∀ (xs : List γ) (acc : List Ent) (ρ : Rho),
    (∀ x ∈ xs, dcStep tg gt fk fv vs (f x) (wipeR ρ vs) = some (if p x then some (tI (en x).1, v (en x)) else none, wipeR ρ vs)) → (acc.map (·.1) ++ (xs.filter p).map fun x => (en x).1).Nodup →
    dcLoop tg gt fk fv vs (xs.map f) (TD v acc) ρ = some (TD v (acc ++ (xs.filter p).map en), if xs = [] then ρ else wipeR ρ vs)
  | [], acc, ρ, _, _ => by simp [dcLoop]
  | x :: xs, acc, ρ, h, nd => by
    have h1 := h x List.mem_cons_self
    have ih := fun acc => dc_map v f en p xs acc (wipeR ρ vs) (fun y hy => by
      have := h y (List.mem_cons_of_mem _ hy)
      rwa [wipeR_wipeR])
    have fin : (if xs = [] then wipeR ρ vs else wipeR (wipeR ρ vs) vs) = wipeR ρ vs := by rw [wipeR_wipeR]; split <;> rfl
    rw [if_neg (by simp), List.map_cons, dcLoop]
    unfold dcStep at h1
    rw [wipeR_wipeR] at h1
    cases q1 : tg (f x) (wipeR ρ vs) with
    | none => rw [q1] at h1; cases h1
    | some ρ1 =>
      rw [q1] at h1
      simp only at h1 ⊢
      cases q2 : gt ρ1 with
      | none => rw [q2] at h1; cases h1
      | some r =>
        rw [q2] at h1
        cases r with
        | ex e ρ2 => cases h1
        | ok b ρ2 =>
          cases b with
          | true =>
            simp only at h1 ⊢
            cases q3 : fk ρ2 with
            | none => rw [q3] at h1; cases h1
            | some r3 =>
              rw [q3] at h1
              cases r3 with
              | ex e ρ3 => cases h1
              | ok dk ρ3 =>
                simp only at h1 ⊢
                cases q4 : fv ρ3 with
                | none => rw [q4] at h1; cases h1
                | some r4 =>
                  rw [q4] at h1
                  cases r4 with
                  | ex e ρ4 => cases h1
                  | ok dv ρ4 =>
                    simp only at h1 ⊢
                    injection h1 with h1
                    injection h1 with e1 e2
                    by_cases hp : p x = true
                    · rw [if_pos hp] at e1
                      injection e1 with e1
                      injection e1 with e3 e4
                      subst e3 e4
                      rw [List.filter_cons_of_pos hp, List.map_cons] at nd
                      have hx : (en x).1 ∉ acc.map (·.1) := fun z => by
                        rw [List.nodup_append] at nd
                        exact nd.2.2 _ z _ List.mem_cons_self rfl
                      simp only [tkey_tI]
                      rw [putD_TD v (en x) acc hx, e2, List.filter_cons_of_pos hp, List.map_cons]
                      have hr := ih (acc ++ [en x]) (by simpa using nd)
                      rw [fin] at hr
                      simpa using hr
                    · rw [if_neg hp] at e1
                      cases e1
          | false =>
            simp only at h1 ⊢
            injection h1 with h1
            injection h1 with e1 e2
            by_cases hp : p x = true
            · rw [if_pos hp] at e1; cases e1
            · rw [List.filter_cons_of_neg hp] at nd ⊢
              rw [e2]
              have hr := ih acc nd
              rwa [fin] at hr
end FL
set_option Elab.async false
set_option linter.all false
set_option maxRecDepth 100000
set_option maxHeartbeats 1000000
/-! Y10: price_paper, closed_paper -/
namespace FL
open PySem PySem.Spec PyProof.Rows L2
section
variable {α : Type} [DecidableEq α] {nb : α → List α} {s : α}
/-- an entry's parent stands ahead of it -/
theorem bT_order : ∀ {n : Nat} {pr post : List (α × Option α × Nat)} {x : α × Option α × Nat}, bT nb s n = pr ++ x :: post → (x.2.1 = none ∧ x.2.2 = 0) ∨ ∃ y j e, x.2.1 = some y ∧ x.2.2 = j + 1 ∧ e ∈ pr ∧ e.1 = y ∧ e.2.2 = j
  | 0, pr, post, x, h => by
    rw [bT_zero] at h
    cases pr with
    | nil => injection h with h1 h2; subst h1; exact .inl ⟨rfl, rfl⟩
    | cons a pr => injection h with h1 h2; simp at h2
  | n + 1, pr, post, x, h => by
    rw [bT_succ] at h
    have inB : x ∈ (bC nb s n).map (fun c => (c.2, some c.1, n + 1)) → (∀ e ∈ bT nb s n, e ∈ pr) → (x.2.1 = none ∧ x.2.2 = 0) ∨ ∃ y j e, x.2.1 = some y ∧ x.2.2 = j + 1 ∧ e ∈ pr ∧ e.1 = y ∧ e.2.2 = j := fun hx hpr => by
      obtain ⟨c, hc, rfl⟩ := List.mem_map.mp hx
      have hc1 := (scan_mem hc).1
      unfold cands at hc1
      obtain ⟨y, hy, hyc⟩ := List.mem_flatMap.mp hc1
      obtain ⟨t, ht, rfl⟩ := List.mem_map.mp hyc
      obtain ⟨p, hp⟩ := bT_of (n := n) hy (Nat.le_refl _)
      exact .inr ⟨y, n, (y, p, n), rfl, rfl, hpr _ hp, rfl, rfl⟩
    rcases List.append_eq_append_iff.mp h with ⟨a', h1, h2⟩ | ⟨c', h1, h2⟩
    · exact inB (by rw [h2]; simp) fun e he => by rw [h1]; exact List.mem_append_left _ he
    · cases c' with
      | nil =>
        simp at h1 h2
        exact inB (by rw [← h2]; simp) fun e he => by rw [← h1]; exact he
      | cons d c' =>
        injection h2 with h3 h4
        subst h3
        exact bT_order h1
end
def ppBody : FS := fPut 8 oSetD (fIf (fT (fOp oIsN (fOp oDGet (fVarL 7) (fVarF 6)) (fC .non))) (fC (.int 0)) (fOp oAdd (fPeek (fOp oDGet (fVarF 8) (fOp oDGet (fVarL 7) (fVarF 6)))) (fC (.int 1)))) (fVarF 6)
theorem F_price_un : F_price_paper = runP 5 10 (fSeq (fSet 5 (fCallP F_distance (aCons (fVarF 0) (aCons (fVarF 1) (aCons (fVarF 2) (aCons (fVarF 3) (aCons (fVarF 4) aNil)))))))
  (fSeq (fIfS (fT (fOp oIsN (fVarF 5) (fC .non))) (fRet (fVa (fC .non))) fNx)
  (fSeq (fPar 7 8 (fCallP F_reached (aCons (fVarF 0) (aCons (fVarF 1) (aCons (fVarF 2) (aCons (fVarF 3) (aCons (fVarF 4) aNil)))))) (fNew (.dt [])))
  (fSeq (fFor (fKeys (fVarL 7)) (tName 6) ppBody)
  (fRet (fDc (fItms (fVarL 8)) (tTuple 2 (tsCons (tName 6) (tsCons (tName 9) tsNil))) (fT (fOp oLt (fVarF 9) (fCall oMax (aCons (fVarF 5) (aCons (fC (.int 1)) aNil))))) (fVarF 6) (fVarF 9) [6, 9])))))) := rfl
def slP (a0 a1 a2 a3 a4 a5 a6 a7 a8 a9 : Sl) : Rho := [a0, a1, a2, a3, a4, a5, a6, a7, a8, a9]
theorem isN_tI (x : List Int) : oIsN (tI x) .non = some (.bl false) := (rfl)
theorem isN_nn : oIsN .non .non = some (.bl true) := (rfl)
theorem ppBody_eq {a0 a1 a2 a3 a4 a5 a9 : Sl} {T pr post : List Ent} {x : Ent} {n : Nat} (nd : (T.map (·.1)).Nodup) (hl : T.length ≤ 100000) (e : T = pr ++ x :: post)
    (h : (x.2.1 = none ∧ x.2.2 = 0) ∨ ∃ y j f, x.2.1 = some y ∧ x.2.2 = j + 1 ∧ f ∈ pr ∧ f.1 = y ∧ f.2.2 = j) :
    ppBody n (slP a0 a1 a2 a3 a4 a5 (.so false (.va (tI x.1))) (.so false (.va (.ldt (TD vP T)))) (.so false (.dt (TD vL pr))) a9) =
    some (.nx (slP a0 a1 a2 a3 a4 a5 (.so false (.va (tI x.1))) (.so false (.va (.ldt (TD vP T)))) (.so false (.dt (TD vL (pr ++ [x])))) a9)) := by
  have hx : x ∈ T := by rw [e]; simp
  have d1 := dget_TDl vP nd hx
  have ndp : (pr.map (·.1)).Nodup := by
    rw [e, List.map_append, List.nodup_append] at nd
    exact nd.1
  have xp : x.1 ∉ pr.map (·.1) := fun z => by
    rw [e, List.map_append, List.nodup_append] at nd
    exact nd.2.2 _ z _ (by simp) rfl
  have lp : pr.length < sizeLine := lt_sz (by rw [e, List.length_append] at hl; omega)
  have pt := put_TD vL x pr xp lp
  rcases h with ⟨h1, h2⟩ | ⟨y, j, f, h1, h2, h3, h4, h5⟩
  · have v1 : vP x = .non := by unfold vP; rw [h1]
    have v2 : vL x = .int 0 := by unfold vL; rw [h2]; rfl
    rw [v1] at d1
    rw [v2] at pt
    simp [ppBody, slP, e_put, d1, isN_nn, pt]
  · have v1 : vP x = tI y := by unfold vP; rw [h1]
    have v2 : vL x = .int ((j : Int) + 1) := by unfold vL; rw [h2]; rfl
    have d2 := dget_TD vL ndp h3
    have v3 : vL f = .int j := by unfold vL; rw [h5]
    rw [v1] at d1
    rw [v2] at pt
    rw [h4, v3] at d2
    simp [ppBody, slP, e_put, d1, isN_tI, pt, d2]
def papT (nb : List Int → List (List Int)) (s : List Int) (n : Nat) : List Ent := (bT nb s n).filter fun e => decide (e.2.2 < max n 1)
variable {kd : List (Str × Int)} {one other : List Int} {P G : Nat}
theorem F_price_none (h : F_distance [kD2 kd, layD one, layD other, .int P, .int G] = some (.ret (.va .non))) : F_price_paper [kD2 kd, layD one, layD other, .int P, .int G] = some (.ret (.va .non)) := by
  simp [F_price_un, h, isN_nn]
theorem F_price_some (C : GoodC kd P G) (v : Valid P G one) (v2 : Valid P G other) {n : Nat} (hn : n < 10000) (h : other ∈ bL (nbr (parts kd) P G) one n) :
    F_price_paper [kD2 kd, layD one, layD other, .int P, .int G] = some (.ret (.dt (TD vL (papT (nbr (parts kd) P G) one n)))) := by
  have ds := F_distance_some C v v2 hn h
  obtain ⟨h1, h2⟩ := bfs_found h
  have r := F_reached_eq (other := other) C v (by omega) h1 (.inr h2)
  have g := bT_good C v n
  have gl := good_len g C.P C.G
  have key : ∀ {pr post : List Ent} {x : Ent}, bT (nbr (parts kd) P G) one n = pr ++ x :: post → (x.2.1 = none ∧ x.2.2 = 0) ∨ ∃ y j f, x.2.1 = some y ∧ x.2.2 = j + 1 ∧ f ∈ pr ∧ f.1 = y ∧ f.2.2 = j := fun e => bT_order e
  unfold papT
  generalize bT (nbr (parts kd) P G) one n = T at r g gl key ⊢
  obtain ⟨ρ', e1, a6', rfl⟩ := for_pre0 (n := fuel) (tg := tName 6) (body := ppBody)
    (fun pr ρ => ∃ a6 : Sl, ρ = slP (.so false (.va (kD2 kd))) (.so false (.va (layD one))) (.so false (.va (layD other))) (.so false (.va (.int P))) (.so false (.va (.int G))) (.so false (.va (.int n))) a6 (.so false (.va (.ldt (TD vP T)))) (.so false (.dt (TD vL pr))) .no)
    (fun e : Ent => tI e.1) T (slP (.so false (.va (kD2 kd))) (.so false (.va (layD one))) (.so false (.va (layD other))) (.so false (.va (.int P))) (.so false (.va (.int G))) (.so false (.va (.int n))) .no (.so false (.va (.ldt (TD vP T)))) (.so false (.dt [])) .no)
    (by
      rintro pr x post ρ e ⟨a6, rfl⟩
      have b := ppBody_eq (n := fuel) (a0 := .so false (.va (kD2 kd))) (a1 := .so false (.va (layD one))) (a2 := .so false (.va (layD other))) (a3 := .so false (.va (.int P))) (a4 := .so false (.va (.int G))) (a5 := .so false (.va (.int n))) (a9 := .no) g.nd (by omega) e (key e)
      exact ⟨_, (forStep_name (by simp [slP])).trans b, _, rfl⟩)
    ⟨.no, rfl⟩
  have mx : oMax [.int n, .int 1] = some (.int (max n 1 : Nat)) := oMax_2 n 1
  have sz : T.length < sizeLine := lt_sz (by omega)
  have hd := dc_map (tg := tTuple 2 (tsCons (tName 6) (tsCons (tName 9) tsNil))) (gt := fT (fOp oLt (fVarF 9) (fCall oMax (aCons (fVarF 5) (aCons (fC (.int 1)) aNil))))) (fk := fVarF 6) (fv := fVarF 9) (vs := [6, 9]) vL (fun e : Ent => D.tup [tI e.1, vL e]) id (fun e => decide (e.2.2 < max n 1)) T []
    (slP (.so false (.va (kD2 kd))) (.so false (.va (layD one))) (.so false (.va (layD other))) (.so false (.va (.int P))) (.so false (.va (.int G))) (.so false (.va (.int n))) a6' (.so false (.va (.ldt (TD vP T)))) (.so false (.va (.ldt (TD vL T)))) .no)
    (by
      intro e _
      have : ((e.2.2 : Int) < ((max n 1 : Nat) : Int)) ↔ e.2.2 < max n 1 := by omega
      by_cases q : e.2.2 < max n 1
      · simp [dcStep, slP, vL, mx, this, q]
      · simp [dcStep, slP, vL, mx, this, q])
    (by
      simp
      have := g.nd
      exact List.Pairwise.sublist (List.Sublist.map _ List.filter_sublist) this)
  have td0 : TD vL [] = [] := rfl
  rw [td0] at hd
  unfold slP at e1 hd
  simp [F_price_un, ds, isN_int, r, keysD_TD]
  rw [e1]
  simp [slP, itemsD_TD, sz, hd]
theorem F_closed_some (C : GoodC kd P G) (v : Valid P G one) (v2 : Valid P G other) {n : Nat} (hn : n < 10000) (h : other ∈ bL (nbr (parts kd) P G) one n) :
    F_closed_paper [kD2 kd, layD one, layD other, .int P, .int G] = some (.ret (.va .non)) := by
  obtain ⟨h1, h2⟩ := bfs_found h
  have r := F_reached_eq (other := other) C v (by omega) h1 (.inr h2)
  have b := F_need_bounds_eq C.k C.P C.G v.w v2.w
  rw [bK_eq] at h2
  simp [F_closed_paper, f_closed_paper, b, r, fld_fac, din_TD, h2, -List.mem_map]
theorem F_closed_none (C : GoodC kd P G) (v : Valid P G one) (v2 : Valid P G other) {n : Nat} (hn : n < 2 ^ 32)
    (h0 : ∀ i, i < n → bL (nbr (parts kd) P G) one i ≠ []) (h1 : bL (nbr (parts kd) P G) one n = []) (h2 : other ∉ bK (nbr (parts kd) P G) one n) :
    F_closed_paper [kD2 kd, layD one, layD other, .int P, .int G] = some (.ret (.ls ((bK (nbr (parts kd) P G) one n).map tI))) := by
  have r := F_reached_eq (other := other) C v hn (fun i hi => ⟨h0 i hi, fun z => h2 (bK_mono (Nat.le_of_lt hi) _ z)⟩) (.inl h1)
  have b := F_need_bounds_eq C.k C.P C.G v.w v2.w
  have li : ∀ T : List Ent, oList [.dt (TD vP T)] = some ((T.map (·.1)).map tI) := fun T => by
    have := keysD_TD vP T
    rw [List.map_map]
    exact congrArg some this
  rw [bK_eq] at h2 ⊢
  simp [F_closed_paper, f_closed_paper, b, r, fld_fac, din_TD, h2, li, -List.mem_map, -List.map_map]
end FL
set_option Elab.async false
set_option linter.all false
set_option maxRecDepth 100000
set_option maxHeartbeats 1000000
/-! V1: what the six functions are refused with -/
namespace FL
open PySem PySem.Spec PyProof.Rows L2
section
variable {kd : List (Str × Int)} {one other : List Int} {P G : Nat}
theorem found_or (C : GoodC kd P G) (v : Valid P G one) (other : List Int) : (∃ n, n < 10000 ∧ other ∈ bL (nbr (parts kd) P G) one n) ∨
    ∃ n, n < 2 ^ 32 ∧ (∀ i, i < n → bL (nbr (parts kd) P G) one i ≠ []) ∧ bL (nbr (parts kd) P G) one n = [] ∧ other ∉ bK (nbr (parts kd) P G) one n := by
  obtain ⟨N, h1, h2, h3⟩ := bfs_end (nb := nbr (parts kd) P G) (s := one) (B := 5005) fun i => by
    rw [bK_eq, List.length_map]
    exact good_len (bT_good C v i) C.P C.G
  by_cases h : other ∈ bK (nbr (parts kd) P G) one N
  · obtain ⟨j, a, b⟩ := bK_lev h
    exact .inl ⟨j, by omega, b⟩
  · exact .inr ⟨N, by omega, h3, h2, h⟩
theorem told_all (C : GoodC kd P G) (v : Valid P G one) (v2 : Valid P G other) :
    (∃ w, F_distance [kD2 kd, layD one, layD other, .int P, .int G] = some (.ret w)) ∧ (∃ w, F_shortest [kD2 kd, layD one, layD other, .int P, .int G] = some (.ret w)) ∧
    (∃ w, F_price_paper [kD2 kd, layD one, layD other, .int P, .int G] = some (.ret w)) ∧ (∃ w, F_closed_paper [kD2 kd, layD one, layD other, .int P, .int G] = some (.ret w)) := by
  rcases found_or C v other with ⟨n, hn, h⟩ | ⟨n, hn, h0, h1, h2⟩
  · obtain ⟨l, _, _, e⟩ := F_shortest_some C v v2 hn h
    exact ⟨⟨_, F_distance_some C v v2 hn h⟩, ⟨_, e⟩, ⟨_, F_price_some C v v2 hn h⟩, ⟨_, F_closed_some C v v2 hn h⟩⟩
  · exact ⟨⟨_, F_distance_none C v v2 hn h0 h1 h2⟩, ⟨_, F_shortest_none C v v2 hn h0 h1 h2⟩, ⟨_, F_price_none (F_distance_none C v v2 hn h0 h1 h2)⟩, ⟨_, F_closed_none C v v2 hn h0 h1 h2⟩⟩
def listV? (d : D) : Option W := match d with
  | .dt kds => some (.ls (kds.map (·.2)))
  | .ldt kds => some (.ls (kds.map (·.2)))
  | _ => none
@[simp] theorem e_ListV {fa : F D} {ρ : Rho} : fListV fa ρ = bnd (fa ρ) fun d => F.of (listV? d) := (rfl)
theorem isi_dt : oIsiX [.dt [], .ty "dict"] = some (.bl true) := (by rfl)
theorem isi_nl : oIsi [.non, .ty "list"] = some (.bl false) := (by rfl)
theorem lx_dt : oListX [.dt []] = some [] := (by rfl)
theorem all_nl : oAll [.lst []] = some (.bl true) := (by rfl)
theorem dg_nl (fs : List Int) : dget? (.dt []) (tI fs) = some none := by
  unfold tI
  simp only [dget?, tkey?, keys_map]
  rfl
theorem told_sd (C : GoodC kd P G) (v : Valid P G one) (v2 : Valid P G other) : F_shows_distance [kD2 kd, layD one, layD other, .int P, .int G, .int 1, .dt []] = some (.ret (.va (.bl false))) := by
  have b := F_need_bounds_eq C.k C.P C.G v.w v2.w
  simp [F_shows_distance, f_shows_distance, b, isi_dt, lx_dt, all_nl, lcLoop, dg_nl, fld_fac, isDct, listV?, dget2, isi_dt]
theorem told_sa (C : GoodC kd P G) (v : Valid P G one) (v2 : Valid P G other) : F_shows_apart [kD2 kd, layD one, layD other, .int P, .int G, .non] = some (.ret (.va (.bl false))) := by
  have b := F_need_bounds_eq C.k C.P C.G v.w v2.w
  simp [F_shows_apart, f_shows_apart, b, isi_nl]
end
section
variable {k a b r g : D} {e : Ex}
theorem exc_shortest (h : F_need_bounds [k, a, b, r, g] = some (.exc e)) : F_shortest [k, a, b, r, g] = some (.exc e) := by
  simp [F_shortest, f_shortest, h]
theorem exc_distance (h : F_need_bounds [k, a, b, r, g] = some (.exc e)) : F_distance [k, a, b, r, g] = some (.exc e) := by
  simp [F_distance, f_distance, exc_shortest h]
theorem exc_price (h : F_need_bounds [k, a, b, r, g] = some (.exc e)) : F_price_paper [k, a, b, r, g] = some (.exc e) := by
  simp [F_price_paper, f_price_paper, exc_distance h]
theorem exc_closed (h : F_need_bounds [k, a, b, r, g] = some (.exc e)) : F_closed_paper [k, a, b, r, g] = some (.exc e) := by
  simp [F_closed_paper, f_closed_paper, h]
theorem exc_sd {n t : D} (h : F_need_bounds [k, a, b, r, g] = some (.exc e)) : F_shows_distance [k, a, b, r, g, n, t] = some (.exc e) := by
  simp [F_shows_distance, f_shows_distance, h]
theorem exc_sa {t : D} (h : F_need_bounds [k, a, b, r, g] = some (.exc e)) : F_shows_apart [k, a, b, r, g, t] = some (.exc e) := by
  simp [F_shows_apart, f_shows_apart, h]
end
end FL
set_option Elab.async false
set_option linter.all false
set_option maxRecDepth 100000
set_option maxHeartbeats 1000000
/-! V2: odd bounds, odd kinds -/
namespace FL
open PySem PySem.Spec PyProof.Rows L2
def bndB (m : Int) : D → Bool
  | .int i => decide (0 ≤ i ∧ i ≤ m)
  | _ => false
def num : D → Bool
  | .int _ | .bl _ | .non | .str _ | .tup _ | .lst _ => true
  | _ => false
def isI : D → Bool
  | .int _ => true
  | _ => false
theorem kit_bi : kitB "bool" "int" = some true := by decide +kernel
theorem kit_bb : kitB "bool" "bool" = some true := by decide +kernel
theorem kit_ni : kitB "NoneType" "int" = some false := by decide +kernel
theorem kit_si : kitB "str" "int" = some false := by decide +kernel
theorem kit_ti : kitB "tuple" "int" = some false := by decide +kernel
theorem kit_li : kitB "list" "int" = some false := by decide +kernel
theorem isi_bl_int (b : Bool) : oIsi [.bl b, .ty "int"] = some (.bl true) := (by rfl)
theorem isi_bl_bool (b : Bool) : oIsi [.bl b, .ty "bool"] = some (.bl true) := (by rfl)
theorem isi_non_int : oIsi [.non, .ty "int"] = some (.bl false) := (by rfl)
theorem isi_str_int (s : Str) : oIsi [.str s, .ty "int"] = some (.bl false) := (by rfl)
theorem isi_tup_int (s : List D) : oIsi [.tup s, .ty "int"] = some (.bl false) := (by rfl)
theorem isi_lst_int (s : List D) : oIsi [.lst s, .ty "int"] = some (.bl false) := (by rfl)
theorem is_integer_num {d : D} (h : num d = true) : F_is_integer [d] = some (.ret (.va (.bl (isI d)))) := by
  cases d with
  | int i => exact F_is_integer_eq i
  | bl b => simp [F_is_integer, f_is_integer, isi_bl_int, isi_bl_bool, isI]
  | non => simp [F_is_integer, f_is_integer, isi_non_int, isI]
  | str s => simp [F_is_integer, f_is_integer, isi_str_int, isI]
  | tup s => simp [F_is_integer, f_is_integer, isi_tup_int, isI]
  | lst s => simp [F_is_integer, f_is_integer, isi_lst_int, isI]
  | _ => simp [num] at h
theorem is_bound_eq {d : D} (h : num d = true) (m : Int) : F__law_is_bound [d, .int m] = some (.ret (.va (.bl (bndB m d)))) := by
  cases d with
  | int i =>
    by_cases h0 : 0 ≤ i
    · simp [F__law_is_bound, f__law_is_bound, isi_int_int, isi_int_bool, bndB, h0]
    · simp [F__law_is_bound, f__law_is_bound, isi_int_int, isi_int_bool, bndB, h0]
  | bl b => simp [F__law_is_bound, f__law_is_bound, isi_bl_int, isi_bl_bool, bndB]
  | non => simp [F__law_is_bound, f__law_is_bound, isi_non_int, bndB]
  | str s => simp [F__law_is_bound, f__law_is_bound, isi_str_int, bndB]
  | tup s => simp [F__law_is_bound, f__law_is_bound, isi_tup_int, bndB]
  | lst s => simp [F__law_is_bound, f__law_is_bound, isi_lst_int, bndB]
  | _ => simp [num] at h
section
variable {kd : List (Str × Int)} {a b r g : D}
def noNum : Ex := ⟨"NoNumber", none⟩
theorem nb_r (k : GoodK kd) (hr : num r = true) (h : bndB 6 r = false) : F_need_bounds [kD2 kd, a, b, r, g] = some (.exc noNum) := by
  have i := is_integer_num hr
  cases hI : isI r with
  | false => simp [F_need_bounds, f_need_bounds, F_need_kind_eq k, i, hI, noNum]
  | true =>
    cases r with
    | int n =>
      by_cases h0 : 0 ≤ n
      · have h6 : ¬ n ≤ 6 := by
          intro z
          simp [bndB, h0, z] at h
        simp [F_need_bounds, f_need_bounds, F_need_kind_eq k, i, isI, noNum, h0, h6]
      · simp [F_need_bounds, f_need_bounds, F_need_kind_eq k, i, isI, noNum, h0]
    | _ => simp [isI] at hI
theorem bnd_int {m : Int} {r : D} (h : bndB m r = true) : ∃ n : Nat, r = .int n ∧ (n : Int) ≤ m := by
  cases r with
  | int i =>
    simp [bndB] at h
    obtain ⟨n, rfl⟩ := Int.eq_ofNat_of_zero_le h.1
    exact ⟨n, rfl, h.2⟩
  | _ => simp [bndB] at h
theorem nb_g (k : GoodK kd) (hg : num g = true) (h6 : bndB 6 r = true) (h : bndB 8 g = false) : F_need_bounds [kD2 kd, a, b, r, g] = some (.exc noNum) := by
  obtain ⟨P, rfl, hP⟩ := bnd_int h6
  have i := is_integer_num hg
  cases hI : isI g with
  | false => simp [F_need_bounds, f_need_bounds, F_need_kind_eq k, i, hI, noNum, F_is_integer_eq, hP]
  | true =>
    cases g with
    | int n =>
      by_cases h0 : 0 ≤ n
      · have h6 : ¬ n ≤ 8 := by
          intro z
          simp [bndB, h0, z] at h
        simp [F_need_bounds, f_need_bounds, F_need_kind_eq k, i, isI, noNum, h0, h6, F_is_integer_eq, hP]
      · simp [F_need_bounds, f_need_bounds, F_need_kind_eq k, i, isI, noNum, h0, F_is_integer_eq, hP]
    | _ => simp [isI] at hI
def noFit : Ex := ⟨"Mismatch", none⟩
theorem all2 (x y : Bool) : oAll [.lst [.bl x, .bl y]] = some (.bl (x && y)) := by cases x <;> cases y <;> rfl
theorem nb_fit (k : GoodK kd) {P G : Nat} (hP : P ≤ 6) (hG : G ≤ 8) {one other : List Int} (h : (within P G one && within P G other) = false) : F_need_bounds [kD2 kd, layD one, layD other, .int P, .int G] = some (.exc noFit) := by
  have p1 : (P : Int) ≤ 6 := by omega
  have d1 : (G : Int) ≤ 8 := by omega
  simp [F_need_bounds, f_need_bounds, F_need_kind_eq k, F_is_integer_eq, p1, d1, sz2, lcLoop, fld_fac, F_are_within_eq, all2, h, noFit]
def noKind : Ex := ⟨"NoKind", none⟩
theorem nb_kind {k : D} (h : F_is_kind [k] = some (.ret (.va (.bl false)))) : F_need_bounds [k, a, b, r, g] = some (.exc noKind) := by
  have : F_need_kind [k] = some (.exc noKind) := by simp [F_need_kind, f_need_kind, h, noKind]
  simp [F_need_bounds, f_need_bounds, this]
end
end FL
set_option Elab.async false
set_option linter.all false
set_option maxRecDepth 100000
set_option maxHeartbeats 1000000
/-! V3: what is no kind -/
namespace FL
open PySem PySem.Spec PyProof.Rows L2
def noP : Option RP → Bool
  | some (.ret (.va (.bl false))) => true
  | _ => false
theorem noP_eq {x : Option RP} (h : noP x = true) : x = some (.ret (.va (.bl false))) := by
  unfold noP at h
  split at h
  · rfl
  · cases h
def ab1 : D := .tup [.tup [.str "a", .int 0], .tup [.str "b", .int 1]]
def ab2 : D := .tup [.tup [.str "a", .int 0], .tup [.str "b", .int 2], .int 1]
theorem bk_ab1 : F_is_kind [ab1] = some (.ret (.va (.bl false))) := noP_eq (by decide +kernel)
theorem bk_ab2 : F_is_kind [ab2] = some (.ret (.va (.bl false))) := noP_eq (by decide +kernel)
theorem bk_non : F_is_kind [.non] = some (.ret (.va (.bl false))) := noP_eq (by decide +kernel)
theorem bk_nil : F_is_kind [.tup []] = some (.ret (.va (.bl false))) := noP_eq (by decide +kernel)
theorem bk_str : F_is_kind [.str "kind"] = some (.ret (.va (.bl false))) := noP_eq (by decide +kernel)
theorem isi_lst_tup (s : List D) : oIsi [.lst s, .ty "tuple"] = some (.bl false) := (by rfl)
theorem isi_tup_tup (s : List D) : oIsi [.tup s, .ty "tuple"] = some (.bl true) := (by rfl)
theorem bk_lst (xs : List D) : F_is_kind [.lst xs] = some (.ret (.va (.bl false))) := by
  simp [F_is_kind, f_is_kind, isi_lst_tup]
theorem bk_one (x : D) : F_is_kind [.tup [x]] = some (.ret (.va (.bl false))) := by
  simp [F_is_kind, f_is_kind, isi_tup_tup, lenT]
theorem sc_any {tg : D → Rho → Option Rho} {gt : F Bool} {fe : F D} {vs : List Nat} {ρ : Rho} : ∀ (kd : List (Str × Int)) (acc : List Key),
    (∀ p ∈ kd, lcStep tg gt fe vs (vD p) ρ = some (some (.str p.1), ρ)) → acc.Nodup →
    ∃ acc', scLoop tg gt fe vs (kd.map vD) acc ρ = some (acc', ρ) ∧ acc'.Nodup ∧ ∀ x ∈ acc', x ∈ acc ∨ x ∈ kd.map fun p => (.inr p.1 : Key)
  | [], acc, _, nd => ⟨acc, by simp [scLoop], nd, fun x hx => .inl hx⟩
  | p :: kd, acc, h, nd => by
    obtain ⟨ρ1, ρ2, ρ3, h1, h2, h3, h4⟩ := lcStep_inv (h p List.mem_cons_self)
    have nd2 : (if memK acc (.inr p.1) = true then acc else acc ++ [.inr p.1]).Nodup := by
      split
      · exact nd
      · rename_i hm
        rw [List.nodup_append]
        refine ⟨nd, by simp, fun a ha b hb z => hm ?_⟩
        rw [List.mem_singleton.mp hb] at z
        unfold memK
        rw [List.any_eq_true]
        exact ⟨a, ha, by simp [z]⟩
    obtain ⟨acc', e1, e2, e3⟩ := sc_any kd (if memK acc (.inr p.1) = true then acc else acc ++ [.inr p.1]) (fun q hq => h q (List.mem_cons_of_mem _ hq)) nd2
    refine ⟨acc', ?_, e2, fun x hx => ?_⟩
    · rw [List.map_cons, scLoop, h1]
      simp only [h2, h3, key?, h4]
      exact e1
    · rcases e3 x hx with q | q
      · split at q
        · exact .inl q
        · rcases List.mem_append.mp q with q | q
          · exact .inl q
          · rw [List.mem_singleton.mp q]; exact .inr (by simp)
      · exact .inr (List.mem_cons_of_mem _ q)
theorem bk_dup {kd : List (Str × Int)} (g : GoodK kd) {p : Str × Int} (hp : p ∈ kd) : F_is_kind [kD2 (kd ++ [p])] = some (.ret (.va (.bl false))) := by
  have h2 := g.two
  have h8 := g.eight
  have sz : (kd ++ [p]).length ≤ sizeLine := le_sz (by simp; omega)
  have i2 : (2 : Int) ≤ (kd ++ [p]).length := by simp; omega
  by_cases hl : ((kd ++ [p]).length : Int) ≤ 8
  case neg => simp [F_is_kind, f_is_kind, kD2, isi_tup_tup, lenT, i2, hl, sz, -List.length_append, -List.map_append]
  have sb : (kd ++ [p]).length + 1 < scanBound := by unfold scanBound; simp; omega
  have all1 : oAll [.lst ((kd ++ [p]).map fun _ => D.bl true)] = some (.bl true) := by rw [all_bl]; simp
  have mem : ∀ q ∈ kd ++ [p], q ∈ kd := fun q hq => by
    rcases List.mem_append.mp hq with h | h
    · exact h
    · rw [List.mem_singleton.mp h]; exact hp
  generalize eL : kd ++ [p] = L at *
  have lL : L.length = kd.length + 1 := by rw [← eL]; simp
  simp [F_is_kind, f_is_kind, kD2, isi_tup_tup, lenT, i2, hl, sz]
  rw [lc_map1 vD (fun _ => .bl true)]
  · simp [all1, sb]
    obtain ⟨acc, e1, e2, e3⟩ := sc_any (tg := tTuple 2 (tsCons (tName 2) (tsCons (tName 3) tsNil))) (gt := F.ret true) (fe := fVarF 2) (vs := [2, 3]) (ρ := [.so false (.va (.tup (L.map vD))), .no, .no, .no, .no]) L [] (fun p hp => by simp [lcStep, vD]) (by simp)
    have la : acc.length ≤ kd.length := by
      have := nodup_len (m := kd.map fun p => (.inr p.1 : Key)) e2 fun x hx => by
        rcases e3 x hx with h | h
        · cases h
        · obtain ⟨q, hq, rfl⟩ := List.mem_map.mp h
          exact List.mem_map.mpr ⟨q, mem q hq, rfl⟩
      simpa using this
    have lt : acc.length < L.length := by omega
    simp [e1, lenT, lt]
  · intro x hx
    have hx' := mem x hx
    have hx2 := g.ps x.2 (by unfold parts; exact List.mem_map_of_mem hx')
    simp [lcStep, F_is_variant_eq (g.tags x hx') hx2.1 hx2.2]
end FL
set_option Elab.async false
set_option linter.all false
set_option maxRecDepth 100000
set_option maxHeartbeats 1000000
/-! V4: the six words -/
namespace FL
open PySem PySem.Spec PyProof.Rows L2
def rows5 (k a b r g : D) : Rho := [.so false (.va k), .so false (.va a), .so false (.va b), .so false (.va r), .so false (.va g), .no, .no]
theorem init5 (k a b r g : D) : initP N__law_words.length [k, a, b, r, g] = rows5 k a b r g := rfl
section
variable {k a b r g : D} {x0 x1 x2 x3 x4 x5 : RP} {s : Str}
/-- what comes of a def, as a word -/
def wordP : RP → Option Str
  | .ret _ => some "told"
  | .exc e => wordD (.ex e [])
theorem wordD_ex (e : Ex) (ρ : Rho) : wordD (.ex e ρ) = wordD (.ex e []) := rfl
theorem words_of (h0 : F_distance [k, a, b, r, g] = some x0) (h1 : F_shortest [k, a, b, r, g] = some x1) (h2 : F_price_paper [k, a, b, r, g] = some x2) (h3 : F_closed_paper [k, a, b, r, g] = some x3)
    (h4 : F_shows_distance [k, a, b, r, g, .int 1, .dt []] = some x4) (h5 : F_shows_apart [k, a, b, r, g, .non] = some x5)
    (w0 : wordP x0 = some s) (w1 : wordP x1 = some s) (w2 : wordP x2 = some s) (w3 : wordP x3 = some s) (w4 : wordP x4 = some s) (w5 : wordP x5 = some s) : F__law_words [k, a, b, r, g] = some [s, s, s, s, s, s] := by
  have e0 : (f_lam0 (rows5 k a b r g)).bind wordD = some s := by
    cases x0 <;> simpa [f_lam0, rows5, h0, wordP, wordD] using w0
  have e1 : (f_lam1 (rows5 k a b r g)).bind wordD = some s := by
    cases x1 <;> simpa [f_lam1, rows5, h1, wordP, wordD] using w1
  have e2 : (f_lam2 (rows5 k a b r g)).bind wordD = some s := by
    cases x2 <;> simpa [f_lam2, rows5, h2, wordP, wordD] using w2
  have e3 : (f_lam3 (rows5 k a b r g)).bind wordD = some s := by
    cases x3 <;> simpa [f_lam3, rows5, h3, wordP, wordD] using w3
  have e4 : (f_lam4 (rows5 k a b r g)).bind wordD = some s := by
    cases x4 <;> simpa [f_lam4, rows5, h4, wordP, wordD, frz] using w4
  have e5 : (f_lam5 (rows5 k a b r g)).bind wordD = some s := by
    cases x5 <;> simpa [f_lam5, rows5, h5, wordP, wordD] using w5
  unfold F__law_words
  rw [if_pos (show [k, a, b, r, g].length = 5 from rfl), init5]
  simp only [lams, lam0, lam1, lam2, lam3, lam4, lam5, List.map_cons, List.map_nil, List.mapM_cons, List.mapM_nil, e0, e1, e2, e3, e4, e5]
  rfl
theorem words_exc {e : Ex} (h : F_need_bounds [k, a, b, r, g] = some (.exc e)) (w : wordD (.ex e []) = some s) : F__law_words [k, a, b, r, g] = some [s, s, s, s, s, s] :=
  words_of (exc_distance h) (exc_shortest h) (exc_price h) (exc_closed h) (exc_sd h) (exc_sa h) w w w w w w
theorem words_told {kd : List (Str × Int)} {one other : List Int} {P G : Nat} (C : GoodC kd P G) (v : Valid P G one) (v2 : Valid P G other) :
    F__law_words [kD2 kd, layD one, layD other, .int P, .int G] = some (["told", "told", "told", "told", "told", "told"] : List Str) := by
  obtain ⟨⟨_, h0⟩, ⟨_, h1⟩, ⟨_, h2⟩, ⟨_, h3⟩⟩ := told_all C v v2
  exact words_of h0 h1 h2 h3 (told_sd C v v2) (told_sa C v v2) rfl rfl rfl rfl rfl rfl
end
end FL
set_option Elab.async false
set_option linter.all false
set_option maxRecDepth 100000
set_option maxHeartbeats 1000000
/-! V5: kind != good -/
namespace FL
open PySem PySem.Spec PyProof.Rows L2
def pyV (p : Str × Int) : PyData := .tuple [.str p.1, .int p.2]
theorem toPys_kD : ∀ kd : List (Str × Int), toPys (kd.map vD) = some (kd.map pyV)
  | [] => rfl
  | p :: kd => by simp [toPys, toPy, vD, pyV, toPys_kD kd]
theorem toPy_kD (kd : List (Str × Int)) : toPy (kD2 kd) = some (.tuple (kd.map pyV)) := by
  simp only [kD2, toPy, toPys_kD, Option.map_some]
theorem tags_ok : tagsL.all PyData.strOk = true := by decide +kernel
theorem shaped_of {L : List (Str × Int)} (h : ∀ p ∈ L, p.1 ∈ tagsL) : PyData.canLayAll0 (L.map pyV) = true ∧ PyData.depthAll (L.map pyV) ≤ 1 := by
  induction L with
  | nil => simp [PyData.canLayAll0, PyData.depthAll]
  | cons p L ih =>
    obtain ⟨h1, h2⟩ := ih fun q hq => h q (List.mem_cons_of_mem _ hq)
    have h3 := List.all_eq_true.mp tags_ok p.1 (h p List.mem_cons_self)
    refine ⟨?_, ?_⟩
    · simp [PyData.canLayAll0, PyData.canLay0, pyV, h1, h3]
    · simp [PyData.depthAll, PyData.depth, pyV]; omega
theorem shaped_T {L : List (Str × Int)} (h : ∀ p ∈ L, p.1 ∈ tagsL) : SeqAt.shaped (.tuple (L.map pyV)) = true := by
  obtain ⟨h1, h2⟩ := shaped_of h
  simp [SeqAt.shaped, PyData.canLay0, PyData.depth, h1]
  omega
theorem shaped_L {L : List (Str × Int)} (h : ∀ p ∈ L, p.1 ∈ tagsL) : SeqAt.shaped (.list (L.map pyV)) = true := by
  obtain ⟨h1, h2⟩ := shaped_of h
  simp [SeqAt.shaped, PyData.canLay0, PyData.depth, h1]
  omega
theorem eqvAll_len : ∀ {xs ys : List PyData}, PyData.eqvAll xs ys = true → xs.length = ys.length
  | [], [], _ => rfl
  | [], _ :: _, h => by simp [PyData.eqvAll] at h
  | _ :: _, [], h => by simp [PyData.eqvAll] at h
  | x :: xs, y :: ys, h => by
    simp only [PyData.eqvAll, Bool.and_eq_true] at h
    rw [List.length_cons, List.length_cons, eqvAll_len h.2]
theorem eqvAll_refl : ∀ kd : List (Str × Int), PyData.eqvAll (kd.map pyV) (kd.map pyV) = true
  | [] => rfl
  | p :: kd => by simp [PyData.eqvAll, PyData.eqv, pyV, eqvAll_refl kd]
section
variable {kd : List (Str × Int)} {k : D} {p : PyData}
theorem ne_of (g : GoodK kd) (e : toPy k = some p) (s : SeqAt.shaped p = true) : oNe k (kD2 kd) = some (.bl (!PyData.eqv p (.tuple (kd.map pyV)))) := by
  simp only [oNe, e, toPy_kD, s, shaped_T g.tags, and_self, if_true]
theorem ne_good (g : GoodK kd) : oNe (kD2 kd) (kD2 kd) = some (.bl false) := by
  rw [ne_of g (toPy_kD kd) (shaped_T g.tags)]
  simp [PyData.eqv, eqvAll_refl]
theorem ne_flat (g : GoodK kd) : oNe .non (kD2 kd) = some (.bl true) ∧ oNe (.str "kind") (kD2 kd) = some (.bl true) := by
  refine ⟨?_, ?_⟩
  · rw [ne_of g (p := .none) rfl (by decide +kernel)]; rfl
  · rw [ne_of g (p := .str "kind") rfl (by decide +kernel)]; rfl
theorem ne_lst (g : GoodK kd) : oNe (.lst (kd.map vD)) (kD2 kd) = some (.bl true) := by
  rw [ne_of g (p := .list (kd.map pyV)) (by simp only [toPy, toPys_kD, Option.map_some]) (shaped_L g.tags)]
  rfl
theorem ne_len (g : GoodK kd) {L : List (Str × Int)} (h : ∀ p ∈ L, p.1 ∈ tagsL) (hl : L.length ≠ kd.length) : oNe (kD2 L) (kD2 kd) = some (.bl true) := by
  rw [ne_of g (toPy_kD L) (shaped_T h)]
  have : PyData.eqv (.tuple (L.map pyV)) (.tuple (kd.map pyV)) = false := by
    simp only [PyData.eqv]
    cases e : PyData.eqvAll (L.map pyV) (kd.map pyV) with
    | false => rfl
    | true => exact absurd (by simpa using eqvAll_len e) hl
  rw [this]; rfl
def py1 : PyData := .tuple [pyV ("a", 0), pyV ("b", 1)]
def py2 : PyData := .tuple [pyV ("a", 0), pyV ("b", 2), .int 1]
theorem ne_ab1 (g : GoodK kd) : oNe ab1 (kD2 kd) = some (.bl true) := by
  rw [ne_of g (p := py1) rfl (by decide +kernel)]
  have : PyData.eqv py1 (.tuple (kd.map pyV)) = false := by
    simp only [py1, PyData.eqv]
    obtain ⟨q, hq, hq2⟩ := g.t
    cases kd with
    | nil => rfl
    | cons x kd =>
      cases kd with
      | nil => simp [PyData.eqvAll]
      | cons y kd =>
        cases kd with
        | cons z kd => simp [PyData.eqvAll]
        | nil =>
          simp only [parts, List.map_cons, List.map_nil, List.mem_cons, List.not_mem_nil, or_false] at hq
          simp only [List.map_cons, List.map_nil, PyData.eqvAll, PyData.eqv, pyV, Bool.and_true]
          rcases hq with h | h
          · have : ((0 : Int) == x.2) = false := by simp; omega
            rw [this]; simp
          · have : ((1 : Int) == y.2) = false := by simp; omega
            rw [this]; simp
  rw [this]; rfl
theorem ne_ab2 (g : GoodK kd) : oNe ab2 (kD2 kd) = some (.bl true) := by
  rw [ne_of g (p := py2) rfl (by decide +kernel)]
  have : PyData.eqv py2 (.tuple (kd.map pyV)) = false := by
    simp only [py2, PyData.eqv]
    cases kd with
    | nil => rfl
    | cons x kd =>
      cases kd with
      | nil => simp [PyData.eqvAll]
      | cons y kd =>
        cases kd with
        | nil => simp [PyData.eqvAll]
        | cons z kd => simp [PyData.eqvAll, PyData.eqv, pyV]
  rw [this]; rfl
/-- what stands beside the good kind -/
def kindsL (kd : List (Str × Int)) : List D := [.non, .tup [], .lst (kd.map vD), .tup ((kd.map vD).take 1), kD2 (kd ++ kd.take 1), ab1, .str "kind", ab2]
theorem kinds_bad (g : GoodK kd) {k : D} (h : k ∈ kindsL kd) : oNe k (kD2 kd) = some (.bl true) ∧ F_is_kind [k] = some (.ret (.va (.bl false))) := by
  have two := g.two
  obtain ⟨x, y, kd', rfl⟩ : ∃ x y kd', kd = x :: y :: kd' := by
    cases kd with
    | nil => simp at two
    | cons x kd => cases kd with
      | nil => simp at two
      | cons y kd => exact ⟨x, y, kd, rfl⟩
  simp only [kindsL, List.mem_cons, List.not_mem_nil, or_false] at h
  rcases h with rfl | rfl | rfl | rfl | rfl | rfl | rfl | rfl
  · exact ⟨(ne_flat g).1, bk_non⟩
  · exact ⟨ne_len (L := []) g (fun _ h => nomatch h) (by simp), bk_nil⟩
  · exact ⟨ne_lst g, bk_lst _⟩
  · exact ⟨ne_len (L := [x]) g (fun p hp => by rw [List.mem_singleton.mp hp]; exact g.tags x List.mem_cons_self) (by simp), bk_one _⟩
  · refine ⟨ne_len g (fun p hp => ?_) (by simp), bk_dup g (p := x) List.mem_cons_self⟩
    rcases List.mem_append.mp hp with h | h
    · exact g.tags p h
    · have : p = x := by simpa using h
      rw [this]; exact g.tags x List.mem_cons_self
  · exact ⟨ne_ab1 g, bk_ab1⟩
  · exact ⟨(ne_flat g).2, bk_str⟩
  · exact ⟨ne_ab2 g, bk_ab2⟩
end
end FL
set_option Elab.async false
set_option linter.all false
set_option maxRecDepth 100000
set_option maxHeartbeats 1000000
/-! V6: the law's turns, the drawing -/
namespace FL
open PySem PySem.Spec PyProof.Rows L2
def la0 : FS := fSet 1 (fCallP F__law_deck_of (aCons (fVarF 0) aNil))
def la1 : FS := fSet 2 (fCallI 1 F__law_some_kind (aCons (fFrz (fCallI 1 F__law_pick (aCons (fFrz (fLst (aCons (fC (.int 2)) (aCons (fC (.int 3)) (aCons (fC (.int 8)) aNil))))) aNil))) aNil))
def la2 : FS := fSet 3 (fLst (aCons (fC .non) (aCons (fTup aNil) (aCons (fFrz (fCallL oList (aCons (fVarF 2) aNil))) (aCons (fSlT (fVarF 2) oNo (oPart (fC (.int 1)))) (aCons (fOp oAdd (fVarF 2) (fSlT (fVarF 2) oNo (oPart (fC (.int 1))))) (aCons (fTup (aCons (fTup (aCons (fC (.str "a")) (aCons (fC (.int 0)) aNil))) (aCons (fTup (aCons (fC (.str "b")) (aCons (fC (.int 1)) aNil))) aNil))) (aCons (fC (.str "kind")) (aCons (fTup (aCons (fTup (aCons (fC (.str "a")) (aCons (fC (.int 0)) aNil))) (aCons (fTup (aCons (fC (.str "b")) (aCons (fC (.int 2)) aNil))) (aCons (fC (.int 1)) aNil)))) aNil)))))))))
def la3 : FS := fSet 4 (fLst (aCons (fFrz (fMake "Layout" F_Layout (aCons (fTup aNil) aNil))) (aCons (fFrz (fMake "Layout" F_Layout (aCons (fTup (aCons (fC (.int 1)) aNil)) aNil))) (aCons (fFrz (fMake "Layout" F_Layout (aCons (fTup (aCons (fC (.int 0)) (aCons (fC (.int 1)) aNil))) aNil))) (aCons (fFrz (fMake "Layout" F_Layout (aCons (fTup (aCons (fC (.int 7)) aNil)) aNil))) (aCons (fFrz (fMake "Layout" F_Layout (aCons (fTup (aCons (fC (.int 0)) (aCons (fC (.int 0)) (aCons (fC (.int 0)) (aCons (fC (.int 2)) aNil))))) aNil))) (aCons (fFrz (fMake "Layout" F_Layout (aCons (fOp oAdd (fOp oMul (fFrz (fLst (aCons (fC (.int 0)) aNil))) (fC (.int 9))) (fFrz (fLst (aCons (fC (.int 1)) aNil)))) aNil))) aNil)))))))
def la4 : FS := fSet 5 (fLst (aCons (fU oNeg (fC (.int 1))) (aCons (fC (.int 0)) (aCons (fC (.int 1)) (aCons (fC (.int 6)) (aCons (fC (.int 7)) (aCons (fC (.int 8)) (aCons (fC (.int 9)) (aCons (fC (.bl true)) (aCons (fC (.bl false)) (aCons (fC .non) (aCons (fC (.str "1")) (aCons (fTup (aCons (fC (.int 1)) aNil)) (aCons (fFrz (fLst (aCons (fC (.int 2)) aNil))) (aCons (fOp oPow (fC (.int 10)) (fC (.int 30))) aNil)))))))))))))))
def lb0 : FS := fSet 7 (fIf (fT (fOp oEq (fFrz (fCallI 1 F__law_below (aCons (fC (.int 4)) aNil))) (fC (.int 0)))) (fCallI 1 F__law_pick (aCons (fVarF 3) aNil)) (fMov 2))
def lb1 : FS := fPar 11 12 (fCallI 1 F__law_pick (aCons (fOp oAdd (fOp oMul (fFrz (fSlL (fVarF 4) oNo (oPart (fC (.int 3))))) (fC (.int 3))) (fVarF 4)) aNil)) (fCallI 1 F__law_pick (aCons (fOp oAdd (fOp oMul (fFrz (fSlL (fVarF 4) oNo (oPart (fC (.int 3))))) (fC (.int 3))) (fVarF 4)) aNil))
def lb2 : FS := fSet 8 (fCallI 1 F__law_pick (aCons (fOp oAdd (fFrz (fLst (aCons (fC (.int 1)) (aCons (fC (.int 2)) (aCons (fC (.int 2)) (aCons (fC (.int 3)) (aCons (fC (.int 7)) (aCons (fC (.int 6)) (aCons (fC (.int 0)) aNil))))))))) (fFrz (fLst (aCons (fFrz (fCallI 1 F__law_pick (aCons (fVarF 5) aNil))) aNil)))) aNil))
def lb3 : FS := fSet 9 (fCallI 1 F__law_pick (aCons (fOp oAdd (fFrz (fLst (aCons (fC (.int 1)) (aCons (fC (.int 2)) (aCons (fC (.int 2)) (aCons (fC (.int 3)) (aCons (fC (.int 9)) (aCons (fC (.int 0)) aNil)))))))) (fFrz (fLst (aCons (fFrz (fCallI 1 F__law_pick (aCons (fVarF 5) aNil))) aNil)))) aNil))
def lb4 : FS := fSet 10 (fVa (fC (.str "told")))
def lb5 : FS := fIfS (fT (fOp oNe (fVarF 7) (fVarF 2))) (fSet 10 (fVa (fC (.str "kind")))) (fIfS (gOr (gNot (fT (fFrz (fCallP F__law_is_bound (aCons (fVarF 8) (aCons (fC (.int 6)) aNil)))))) (gNot (fT (fFrz (fCallP F__law_is_bound (aCons (fVarF 9) (aCons (fC (.int 8)) aNil))))))) (fSet 10 (fVa (fC (.str "number")))) (fIfS (fT (fOp (fun x y => (oNeLen x y).or (oNe x y)) (fFrz (fLc (fItems (fTup (aCons (fVarF 11) (aCons (fVarF 12) aNil)))) (tName 13) (gOr (fT (fOp oGt (fFrz (fProp "Layout" F_total (fVarF 13))) (fVarF 8))) (fT (fOp oGt (fFld "Layout" "degree" (fVarF 13)) (fVarF 9)))) (fVarF 13) [13])) (fFrz (fLst aNil)))) (fSet 10 (fVa (fC (.str "fit")))) fNx))
def lb6 : FS := fSet 8 (fIf (gAnd (fT (fOp oEq (fVarF 10) (fC (.str "told")))) (fT (fOp oGt (fVarF 8) (fC (.int 3))))) (fVa (fC (.int 3))) (fMov 8))
def lb7 : FS := fSet 9 (fIf (gAnd (fT (fOp oEq (fVarF 10) (fC (.str "told")))) (fT (fOp oGt (fVarF 9) (fC (.int 3))))) (fVa (fC (.int 3))) (fMov 9))
def lb8 : FS := fIfS (fT (fOp oNe (fFrz (fWords 14 "_law_words" qLam F__law_words (aCons (fVarF 7) (aCons (fVarF 11) (aCons (fVarF 12) (aCons (fVarF 8) (aCons (fVarF 9) aNil))))))) (fOp oMul (fFrz (fLst (aCons (fVarF 10) aNil))) (fC (.int 6))))) (fRet (fVa (fC (.bl false)))) fNx
def lb : FS := fSeq lb0 (fSeq lb1 (fSeq lb2 (fSeq lb3 (fSeq lb4 (fSeq lb5 (fSeq lb6 (fSeq lb7 lb8)))))))
theorem F_law_un : F_law = runT 1 15 14 (fSeq la0 (fSeq la1 (fSeq la2 (fSeq la3 (fSeq la4 (fSeq (fFor (fIt oRange1 (aCons (fC (.int 12)) aNil)) (tName 6) lb) (fRet (fVa (fC (.bl true)))))))))) := rfl

def LaysL : List (List Int) := [[], [1], [0, 1], [7], [0, 0, 0, 2], [0, 0, 0, 0, 0, 0, 0, 0, 0, 1]]
def recsB : List D := [.int 1, .int 2, .int 2, .int 3, .int 7, .int 6, .int 0]
def degsB : List D := [.int 1, .int 2, .int 2, .int 3, .int 9, .int 0]
def numsL : List D := [.int (-1), .int 0, .int 1, .int 6, .int 7, .int 8, .int 9, .bl true, .bl false, .non, .str "1", .tup [.int 1], .lst [.int 2], .int 1000000000000000000000000000000]
def sl (s0 : D) (dk : W) (kd : List (Str × Int)) (w3 w4 w5 : W) (s6 s7 s8 s9 s10 s11 s12 s13 : Sl) : Rho := [.so false (.va s0), .so false dk, .so false (.va (kD2 kd)), .so false w3, .so false w4, .so false w5, s6, s7, s8, s9, s10, s11, s12, s13, .tab "_law_words" qLam]
section
variable {s0 : D} {dk w3 w4 w5 : W} {kd : List (Str × Int)} {s6 s7 s8 s9 s10 s11 s12 s13 : Sl} {n : Nat}
theorem addL {xs ys : List D} (h : xs.length + ys.length ≤ sizeLine) : oAdd (.lst xs) (.lst ys) = some (.lst (xs ++ ys)) := by
  simp [oAdd, oAddI, oInt, oAddS, oCatT, oCat, h]
theorem lb0_eq (hd : Deck dk) (h3 : frz w3 = .lst (kindsL kd)) : ∃ dk' w3' k, Deck dk' ∧ frz w3' = .lst (kindsL kd) ∧ (k = kD2 kd ∨ k ∈ kindsL kd) ∧
    lb0 n (sl s0 dk kd w3 w4 w5 s6 s7 s8 s9 s10 s11 s12 s13) = some (.nx (sl s0 dk' kd w3' w4 w5 s6 (.so false (.va k)) s8 s9 s10 s11 s12 s13)) := by
  obtain ⟨r, dk1, a1, b1, hd1, e1⟩ := below_eq hd (k := 4) (by omega) (by omega)
  by_cases h0 : r = 0
  · subst h0
    obtain ⟨k, dk2, hk, hd2, e2⟩ := pick_eq hd1 (ds := kindsL kd) (by simp [kindsL]) (by simp [kindsL])
    refine ⟨dk2, .va (.lst (kindsL kd)), k, hd2, by simp, .inr hk, ?_⟩
    simp [lb0, sl, e_CallI, e1, h3, e2]
  · refine ⟨dk1, w3, kD2 kd, hd1, h3, .inl rfl, ?_⟩
    simp [lb0, sl, e_CallI, e1, h0]
def LD : List D := LaysL.map layD
def lay15 : List D := (List.replicate 3 (LD.take 3)).flatten ++ LD
theorem sl3L : oSlL (.lst LD) none (some 3) = some (LD.take 3) := by
  simp only [oSlL, sqL?, Option.map_some]
  rw [show (3 : Int) = ((3 : Nat) : Int) from rfl, cut_take]
theorem lenLD : LD.length = 6 := (by rfl)
theorem rep3L : oMul (.lst (LD.take 3)) (.int 3) = some (.lst (List.replicate 3 (LD.take 3)).flatten) := by
  rw [oMul_lst, show (3 : Int) = ((3 : Nat) : Int) from rfl, oRep_lst _ 3 (by rw [List.length_take, lenLD]; exact le_sz (by omega)) (by omega)]
  rfl
theorem add15 : oAdd (.lst (List.replicate 3 (LD.take 3)).flatten) (.lst LD) = some (.lst lay15) := addL (le_sz (by simp [lenLD]))
theorem lay15_mem {d : D} (h : d ∈ lay15) : ∃ fs ∈ LaysL, d = layD fs := by
  have : d ∈ LD := by
    unfold lay15 at h
    rcases List.mem_append.mp h with h | h
    · obtain ⟨l, hl, h⟩ := List.mem_flatten.mp h
      rw [List.eq_of_mem_replicate hl] at h
      exact List.mem_of_mem_take h
    · exact h
  obtain ⟨fs, h1, h2⟩ := List.mem_map.mp this
  exact ⟨fs, h1, h2.symm⟩
theorem lb1_eq (hd : Deck dk) (h4 : frz w4 = .lst LD) : ∃ dk' w4' one other, Deck dk' ∧ frz w4' = .lst LD ∧ one ∈ LaysL ∧ other ∈ LaysL ∧
    lb1 n (sl s0 dk kd w3 w4 w5 s6 s7 s8 s9 s10 s11 s12 s13) = some (.nx (sl s0 dk' kd w3 w4' w5 s6 s7 s8 s9 s10 (.so false (.va (layD one))) (.so false (.va (layD other))) s13)) := by
  have n15 : lay15 ≠ [] := by simp [lay15, LD, LaysL]
  have l15 : lay15.length < 1073741824 := by simp [lay15, lenLD]
  obtain ⟨d1, dk1, m1, hd1, e1⟩ := pick_eq hd n15 l15
  obtain ⟨d2, dk2, m2, hd2, e2⟩ := pick_eq hd1 n15 l15
  obtain ⟨one, o1, rfl⟩ := lay15_mem m1
  obtain ⟨other, o2, rfl⟩ := lay15_mem m2
  refine ⟨dk2, .va (.lst LD), one, other, hd2, by simp, o1, o2, ?_⟩
  have r3 := rep3L
  have a15 := add15
  generalize (List.replicate 3 (LD.take 3)).flatten = X at r3 a15
  simp [lb1, sl, e_CallI, h4, sl3L, r3, a15, e1, e2]
theorem all_num : ∀ d ∈ numsL, num d = true := by
  intro d h
  simp only [numsL, List.mem_cons, List.not_mem_nil, or_false] at h
  rcases h with rfl | rfl | rfl | rfl | rfl | rfl | rfl | rfl | rfl | rfl | rfl | rfl | rfl | rfl <;> rfl
theorem recs_num : ∀ d ∈ recsB, num d = true := by
  intro d h
  simp only [recsB, List.mem_cons, List.not_mem_nil, or_false] at h
  rcases h with rfl | rfl | rfl | rfl | rfl | rfl | rfl <;> rfl
theorem degs_num : ∀ d ∈ degsB, num d = true := by
  intro d h
  simp only [degsB, List.mem_cons, List.not_mem_nil, or_false] at h
  rcases h with rfl | rfl | rfl | rfl | rfl | rfl <;> rfl
theorem lb2_eq (hd : Deck dk) (h5 : frz w5 = .lst numsL) : ∃ dk' w5' r, Deck dk' ∧ frz w5' = .lst numsL ∧ num r = true ∧
    lb2 n (sl s0 dk kd w3 w4 w5 s6 s7 s8 s9 s10 s11 s12 s13) = some (.nx (sl s0 dk' kd w3 w4 w5' s6 s7 (.so false (.va r)) s9 s10 s11 s12 s13)) := by
  obtain ⟨d1, dk1, m1, hd1, e1⟩ := pick_eq hd (ds := numsL) (by simp [numsL]) (by simp [numsL])
  obtain ⟨d2, dk2, m2, hd2, e2⟩ := pick_eq hd1 (ds := recsB ++ [d1]) (by simp) (by simp [recsB])
  have a : oAdd (.lst recsB) (.lst [d1]) = some (.lst (recsB ++ [d1])) := addL (le_sz (by simp [recsB]))
  unfold recsB at a e2
  simp only [List.cons_append, List.nil_append] at a e2
  refine ⟨dk2, .va (.lst numsL), d2, hd2, by simp, ?_, ?_⟩
  · rcases List.mem_append.mp m2 with h | h
    · exact recs_num _ h
    · rw [List.mem_singleton.mp h]; exact all_num _ m1
  · simp [lb2, sl, e_CallI, h5, e1, a, e2, sz7, sz1]
theorem lb3_eq (hd : Deck dk) (h5 : frz w5 = .lst numsL) : ∃ dk' w5' r, Deck dk' ∧ frz w5' = .lst numsL ∧ num r = true ∧
    lb3 n (sl s0 dk kd w3 w4 w5 s6 s7 s8 s9 s10 s11 s12 s13) = some (.nx (sl s0 dk' kd w3 w4 w5' s6 s7 s8 (.so false (.va r)) s10 s11 s12 s13)) := by
  obtain ⟨d1, dk1, m1, hd1, e1⟩ := pick_eq hd (ds := numsL) (by simp [numsL]) (by simp [numsL])
  obtain ⟨d2, dk2, m2, hd2, e2⟩ := pick_eq hd1 (ds := degsB ++ [d1]) (by simp) (by simp [degsB])
  have a : oAdd (.lst degsB) (.lst [d1]) = some (.lst (degsB ++ [d1])) := addL (le_sz (by simp [degsB]))
  have sz6 : 6 ≤ sizeLine := le_sz (by omega)
  unfold degsB at a e2
  simp only [List.cons_append, List.nil_append] at a e2
  refine ⟨dk2, .va (.lst numsL), d2, hd2, by simp, ?_, ?_⟩
  · rcases List.mem_append.mp m2 with h | h
    · exact degs_num _ h
    · rw [List.mem_singleton.mp h]; exact all_num _ m1
  · simp [lb3, sl, e_CallI, h5, e1, a, e2, sz6, sz1]
end
end FL
set_option Elab.async false
set_option linter.all false
set_option maxRecDepth 100000
set_option maxHeartbeats 1000000
/-! V7: the law's turns, what is due -/
namespace FL
open PySem PySem.Spec PyProof.Rows L2
theorem F_total_eq (fs : List Int) : F_total [layD fs] = some (.ret (.va (.int fs.sum))) := by
  simp [F_total, f_total, fld_fac]
theorem fld_deg (fs : List Int) : oFld "Layout" "degree" (layD fs) = some (.int ((fs.length : Int) - 1)) := by
  simp [oFld, layD, layFs, List.lookup, bdf]
def sixS (s : Str) : List D := [.str s, .str s, .str s, .str s, .str s, .str s]
theorem six_k : oMul (.lst [.str "kind"]) (.int 6) = some (.lst (sixS "kind")) := (by kernel_rfl)
theorem six_n : oMul (.lst [.str "number"]) (.int 6) = some (.lst (sixS "number")) := (by kernel_rfl)
theorem six_f : oMul (.lst [.str "fit"]) (.int 6) = some (.lst (sixS "fit")) := (by kernel_rfl)
theorem six_t : oMul (.lst [.str "told"]) (.int 6) = some (.lst (sixS "told")) := (by kernel_rfl)
theorem ne_k : oNe (.lst (sixS "kind")) (.lst (sixS "kind")) = some (.bl false) := (by kernel_rfl)
theorem ne_n : oNe (.lst (sixS "number")) (.lst (sixS "number")) = some (.bl false) := (by kernel_rfl)
theorem ne_f : oNe (.lst (sixS "fit")) (.lst (sixS "fit")) = some (.bl false) := (by kernel_rfl)
theorem ne_t : oNe (.lst (sixS "told")) (.lst (sixS "told")) = some (.bl false) := (by kernel_rfl)
theorem eq_k : oEq (.str "kind") (.str "told") = some (.bl false) := (by kernel_rfl)
theorem eq_n : oEq (.str "number") (.str "told") = some (.bl false) := (by kernel_rfl)
theorem eq_f : oEq (.str "fit") (.str "told") = some (.bl false) := (by kernel_rfl)
theorem eq_t : oEq (.str "told") (.str "told") = some (.bl true) := (by kernel_rfl)
theorem e_Words {i : Nat} {d q : Str} {Fn : List D → Option (List Str)} {fs : F (List D)} {ρ : Rho} : fWords i d q Fn fs ρ = bnd (fs ρ) fun ds ρ => match ρ[i]? with
  | some (.tab d' q') => if d' = d ∧ q' = q then (Fn ds).map fun ws => .ok (.ls (ws.map .str)) ρ else none
  | _ => none := (rfl)
def propP (cn : Str) (Fn : List D → Option RP) (d : D) (ρ : Rho) : Option (R W) := match d with
  | .obj c _ => if c = cn then match Fn [d] with
    | some (.ret w) => some (.ok w ρ)
    | _ => none else none
  | _ => none
@[simp] theorem e_Prop {cn : Str} {Fn : List D → Option RP} {fa : F D} {ρ : Rho} : fProp cn Fn fa ρ = bnd (fa ρ) (propP cn Fn) := (rfl)
theorem prop_tot (fs : List Int) (ρ : Rho) : propP "Layout" F_total (layD fs) ρ = some (.ok (.va (.int fs.sum)) ρ) := by
  have h := F_total_eq fs
  unfold layD at h ⊢
  simp only [propP, if_true, h]
theorem neN (xs : List D) : (oNeLen (.lst xs) (.lst [])).or (oNe (.lst xs) (.lst [])) = some (.bl (!xs.isEmpty)) := by
  cases xs with
  | nil => kernel_rfl
  | cons x xs => simp [oNeLen, sqL?]
section
variable {s0 : D} {dk w3 w4 w5 : W} {kd : List (Str × Int)} {s6 s7 s8 s9 s10 s11 s12 s13 : Sl} {n : Nat} {k a b r g : D} {s : Str}
/-- the last two tests where something else than told is due -/
theorem last_eq (h : F__law_words [k, a, b, r, g] = some [s, s, s, s, s, s]) (h1 : oMul (.lst [.str s]) (.int 6) = some (.lst (sixS s))) (h2 : oNe (.lst (sixS s)) (.lst (sixS s)) = some (.bl false)) :
    lb8 n (sl s0 dk kd w3 w4 w5 s6 (.so false (.va k)) (.so false (.va r)) (.so false (.va g)) (.so false (.va (.str s))) (.so false (.va a)) (.so false (.va b)) s13) =
      some (.nx (sl s0 dk kd w3 w4 w5 s6 (.so false (.va k)) (.so false (.va r)) (.so false (.va g)) (.so false (.va (.str s))) (.so false (.va a)) (.so false (.va b)) s13)) := by
  unfold sixS at h1 h2
  simp [lb8, sl, e_Words, h, h1, h2, sz1]
/-- what is due: not a kind -/
def lbR : FS := fSeq lb4 (fSeq lb5 (fSeq lb6 (fSeq lb7 lb8)))
theorem due_k (hne : oNe k (kD2 kd) = some (.bl true)) (hk : F_is_kind [k] = some (.ret (.va (.bl false)))) :
    lbR n (sl s0 dk kd w3 w4 w5 s6 (.so false (.va k)) (.so false (.va r)) (.so false (.va g)) s10 (.so false (.va a)) (.so false (.va b)) s13) =
      some (.nx (sl s0 dk kd w3 w4 w5 s6 (.so false (.va k)) (.so false (.va r)) (.so false (.va g)) (.so false (.va (.str "kind"))) (.so false (.va a)) (.so false (.va b)) s13)) := by
  have L := last_eq (n := n) (s0 := s0) (dk := dk) (kd := kd) (w3 := w3) (w4 := w4) (w5 := w5) (s6 := s6) (s13 := s13) (words_exc (nb_kind (a := a) (b := b) (r := r) (g := g) hk) (s := "kind") rfl) six_k ne_k
  simp only [sl] at L
  simp [lbR, lb4, lb5, lb6, lb7, sl, hne, eq_k, L]
theorem due_n (gk : GoodK kd) (hr : num r = true) (hg : num g = true) (h : bndB 6 r = false ∨ bndB 8 g = false) :
    lbR n (sl s0 dk kd w3 w4 w5 s6 (.so false (.va (kD2 kd))) (.so false (.va r)) (.so false (.va g)) s10 (.so false (.va a)) (.so false (.va b)) s13) =
      some (.nx (sl s0 dk kd w3 w4 w5 s6 (.so false (.va (kD2 kd))) (.so false (.va r)) (.so false (.va g)) (.so false (.va (.str "number"))) (.so false (.va a)) (.so false (.va b)) s13)) := by
  have nb : F_need_bounds [kD2 kd, a, b, r, g] = some (.exc noNum) := by
    cases q : bndB 6 r with
    | false => exact nb_r gk hr q
    | true =>
      rcases h with h | h
      · rw [h] at q; cases q
      · exact nb_g gk hg q h
  have L := last_eq (n := n) (s0 := s0) (dk := dk) (kd := kd) (w3 := w3) (w4 := w4) (w5 := w5) (s6 := s6) (s13 := s13) (words_exc nb (s := "number") rfl) six_n ne_n
  simp only [sl] at L
  have i6 := is_bound_eq hr 6
  have i8 := is_bound_eq hg 8
  have hne := ne_good gk
  cases q : bndB 6 r with
  | false =>
    rw [q] at i6
    simp [lbR, lb4, lb5, lb6, lb7, sl, hne, eq_n, i6, L]
  | true =>
    rcases h with h | h
    · rw [h] at q; cases q
    · rw [q] at i6
      rw [h] at i8
      simp [lbR, lb4, lb5, lb6, lb7, sl, hne, eq_n, i6, i8, L]
section
variable {P G : Nat} {one other fs : List Int}
def tst : F Bool := gOr (fT (fOp oGt (fFrz (fProp "Layout" F_total (fVarF 13))) (fVarF 8))) (fT (fOp oGt (fFld "Layout" "degree" (fVarF 13)) (fVarF 9)))
def cm : F W := fLc (fItems (fTup (aCons (fVarF 11) (aCons (fVarF 12) aNil)))) (tName 13) tst (fVarF 13) [13]
theorem tst_eq {s7 s10 s11 s12 : Sl} : tst (sl s0 dk kd w3 w4 w5 s6 s7 (.so false (.va (.int P))) (.so false (.va (.int G))) s10 s11 s12 (.so false (.va (layD fs)))) =
    some (.ok (!within P G fs) (sl s0 dk kd w3 w4 w5 s6 s7 (.so false (.va (.int P))) (.so false (.va (.int G))) s10 s11 s12 (.so false (.va (layD fs))))) := by
  by_cases h1 : fs.sum ≤ P
  · by_cases h2 : fs.length ≤ G + 1
    · have a1 : ¬ (P : Int) < fs.sum := by omega
      have a2 : ¬ (G : Int) < (fs.length : Int) - 1 := by omega
      simp [tst, sl, prop_tot, fld_deg, a1, a2, within, h1, h2]
    · have a1 : ¬ (P : Int) < fs.sum := by omega
      have a2 : (G : Int) < (fs.length : Int) - 1 := by omega
      simp [tst, sl, prop_tot, fld_deg, a1, a2, within, h1, h2]
  · have a1 : (P : Int) < fs.sum := by omega
    simp [tst, sl, prop_tot, fld_deg, a1, within, h1]
theorem cm_eq {s7 s10 : Sl} : cm (sl s0 dk kd w3 w4 w5 s6 s7 (.so false (.va (.int P))) (.so false (.va (.int G))) s10 (.so false (.va (layD one))) (.so false (.va (layD other))) s13) =
    some (.ok (.ls (([one, other].filter fun fs => !within P G fs).map layD)) (sl s0 dk kd w3 w4 w5 s6 s7 (.so false (.va (.int P))) (.so false (.va (.int G))) s10 (.so false (.va (layD one))) (.so false (.va (layD other))) .no)) := by
  have t1 := tst_eq (s0 := s0) (dk := dk) (kd := kd) (w3 := w3) (w4 := w4) (w5 := w5) (s6 := s6) (P := P) (G := G) (fs := one) (s7 := s7) (s10 := s10) (s11 := .so false (.va (layD one))) (s12 := .so false (.va (layD other)))
  have t2 := tst_eq (s0 := s0) (dk := dk) (kd := kd) (w3 := w3) (w4 := w4) (w5 := w5) (s6 := s6) (P := P) (G := G) (fs := other) (s7 := s7) (s10 := s10) (s11 := .so false (.va (layD one))) (s12 := .so false (.va (layD other)))
  simp only [sl] at t1 t2
  cases h1 : within P G one <;> cases h2 : within P G other <;> simp [cm, sl, lcLoop, wipeR, sz2, t1, t2, h1, h2]
theorem lb5_un : lb5 = fIfS (fT (fOp oNe (fVarF 7) (fVarF 2))) (fSet 10 (fVa (fC (.str "kind")))) (fIfS (gOr (gNot (fT (fFrz (fCallP F__law_is_bound (aCons (fVarF 8) (aCons (fC (.int 6)) aNil)))))) (gNot (fT (fFrz (fCallP F__law_is_bound (aCons (fVarF 9) (aCons (fC (.int 8)) aNil))))))) (fSet 10 (fVa (fC (.str "number"))))
    (fIfS (fT (fOp (fun x y => (oNeLen x y).or (oNe x y)) (fFrz cm) (fFrz (fLst aNil)))) (fSet 10 (fVa (fC (.str "fit")))) fNx)) := rfl
theorem due_f (gk : GoodK kd) (hP : P ≤ 6) (hG : G ≤ 8) (h : (within P G one && within P G other) = false) :
    lbR n (sl s0 dk kd w3 w4 w5 s6 (.so false (.va (kD2 kd))) (.so false (.va (.int P))) (.so false (.va (.int G))) s10 (.so false (.va (layD one))) (.so false (.va (layD other))) s13) =
      some (.nx (sl s0 dk kd w3 w4 w5 s6 (.so false (.va (kD2 kd))) (.so false (.va (.int P))) (.so false (.va (.int G))) (.so false (.va (.str "fit"))) (.so false (.va (layD one))) (.so false (.va (layD other))) .no)) := by
  have L := last_eq (n := n) (s0 := s0) (dk := dk) (kd := kd) (w3 := w3) (w4 := w4) (w5 := w5) (s6 := s6) (s13 := .no) (words_exc (nb_fit gk hP hG h) (s := "fit") rfl) six_f ne_f
  have i6 := is_bound_eq (d := .int P) rfl 6
  have i8 := is_bound_eq (d := .int G) rfl 8
  have b6 : bndB 6 (.int P) = true := by simp [bndB]; omega
  have b8 : bndB 8 (.int G) = true := by simp [bndB]; omega
  rw [b6] at i6
  rw [b8] at i8
  have hne := ne_good gk
  have c := cm_eq (s0 := s0) (dk := dk) (kd := kd) (w3 := w3) (w4 := w4) (w5 := w5) (s6 := s6) (P := P) (G := G) (one := one) (other := other) (s7 := .so false (.va (kD2 kd))) (s10 := .so false (.va (.str "told"))) (s13 := s13)
  have ne : (!(([one, other].filter fun fs => !within P G fs).map layD).isEmpty) = true := by
    cases h1 : within P G one <;> cases h2 : within P G other <;> simp [h1, h2] at h ⊢
  have nn := neN (([one, other].filter fun fs => !within P G fs).map layD)
  rw [ne] at nn
  generalize ([one, other].filter fun fs => !within P G fs).map layD = X at c nn
  simp only [sl] at L c
  rw [lbR, lb5_un]
  simp [lb4, lb6, lb7, sl, hne, eq_f, i6, i8, c, nn, L]
end
end
end FL
set_option Elab.async false
set_option linter.all false
set_option maxRecDepth 100000
set_option maxHeartbeats 1000000
/-! V8: the law's turns, told; the law -/
namespace FL
open PySem PySem.Spec PyProof.Rows L2
section
variable {s0 : D} {dk w3 w4 w5 : W} {kd : List (Str × Int)} {s6 s7 s8 s9 s10 s11 s12 s13 : Sl} {n : Nat} {P G : Nat} {one other fs : List Int}
def fits (P G : Nat) (fs : List Int) : Bool := decide (trim fs = fs) && (fs.all (fun x => decide (0 ≤ x)) && (decide (fs.length ≤ G + 1) && decide (fs.sum ≤ P)))
theorem fits_valid (h : fits P G fs = true) : Valid P G fs := by
  unfold fits at h
  simp only [Bool.and_eq_true, decide_eq_true_eq, List.all_eq_true] at h
  exact ⟨h.1, h.2.1, h.2.2.1, h.2.2.2⟩
theorem less_all : ∀ fs ∈ LaysL, ∀ P < 7, ∀ G < 9, within P G fs = true → fits (if P > 3 then 3 else P) (if G > 3 then 3 else G) fs = true := by decide +kernel
theorem due_t (gk : GoodK kd) (hP : P ≤ 6) (hG : G ≤ 8) (m1 : one ∈ LaysL) (m2 : other ∈ LaysL) (h1 : within P G one = true) (h2 : within P G other = true) : ∃ r' g',
    lbR n (sl s0 dk kd w3 w4 w5 s6 (.so false (.va (kD2 kd))) (.so false (.va (.int P))) (.so false (.va (.int G))) s10 (.so false (.va (layD one))) (.so false (.va (layD other))) s13) =
      some (.nx (sl s0 dk kd w3 w4 w5 s6 (.so false (.va (kD2 kd))) r' g' (.so false (.va (.str "told"))) (.so false (.va (layD one))) (.so false (.va (layD other))) .no)) := by
  have f1 := fits_valid (less_all one m1 P (by omega) G (by omega) h1)
  have f2 := fits_valid (less_all other m2 P (by omega) G (by omega) h2)
  have C : GoodC kd (if P > 3 then 3 else P) (if G > 3 then 3 else G) := ⟨gk, by split <;> omega, by split <;> omega⟩
  have L := last_eq (n := n) (s0 := s0) (dk := dk) (kd := kd) (w3 := w3) (w4 := w4) (w5 := w5) (s6 := s6) (s13 := .no) (words_told C f1 f2) six_t ne_t
  have i6 := is_bound_eq (d := .int P) rfl 6
  have i8 := is_bound_eq (d := .int G) rfl 8
  have b6 : bndB 6 (.int P) = true := by simp [bndB]; omega
  have b8 : bndB 8 (.int G) = true := by simp [bndB]; omega
  rw [b6] at i6
  rw [b8] at i8
  have hne := ne_good gk
  have c := cm_eq (s0 := s0) (dk := dk) (kd := kd) (w3 := w3) (w4 := w4) (w5 := w5) (s6 := s6) (P := P) (G := G) (one := one) (other := other) (s7 := .so false (.va (kD2 kd))) (s10 := .so false (.va (.str "told"))) (s13 := s13)
  have ne : ([one, other].filter fun fs => !within P G fs).map layD = [] := by simp [h1, h2]
  rw [ne] at c
  have nn : oNeLen (.lst []) (.lst []) = none := by simp [oNeLen, sqL?]
  simp only [sl] at L c
  refine ⟨.so false (.va (.int (if P > 3 then 3 else P : Nat))), .so false (.va (.int (if G > 3 then 3 else G : Nat))), ?_⟩
  rw [lbR, lb5_un]
  by_cases p3 : P > 3
  · have p4 : (3 : Int) < (P : Int) := by omega
    rw [if_pos p3] at L ⊢
    by_cases g3 : G > 3
    · have g4 : (3 : Int) < (G : Int) := by omega
      rw [if_pos g3] at L ⊢
      simp only [Int.cast_ofNat_Int] at L ⊢
      simp [lb4, lb6, lb7, sl, hne, eq_t, i6, i8, c, nn, p4, g4, L]
    · have g4 : ¬ (3 : Int) < (G : Int) := by omega
      rw [if_neg g3] at L ⊢
      simp only [Int.cast_ofNat_Int] at L ⊢
      simp [lb4, lb6, lb7, sl, hne, eq_t, i6, i8, c, nn, p4, g4, L]
  · have p4 : ¬ (3 : Int) < (P : Int) := by omega
    rw [if_neg p3] at L ⊢
    by_cases g3 : G > 3
    · have g4 : (3 : Int) < (G : Int) := by omega
      rw [if_pos g3] at L ⊢
      simp only [Int.cast_ofNat_Int] at L ⊢
      simp [lb4, lb6, lb7, sl, hne, eq_t, i6, i8, c, nn, p4, g4, L]
    · have g4 : ¬ (3 : Int) < (G : Int) := by omega
      rw [if_neg g3] at L ⊢
      simp [lb4, lb6, lb7, sl, hne, eq_t, i6, i8, c, nn, p4, g4, L]
/-- a turn -/
theorem lb_un : lb = fSeq lb0 (fSeq lb1 (fSeq lb2 (fSeq lb3 lbR))) := rfl
theorem lb_eq (hd : Deck dk) (gk : GoodK kd) (h3 : frz w3 = .lst (kindsL kd)) (h4 : frz w4 = .lst LD) (h5 : frz w5 = .lst numsL) : ∃ dk' w3' w4' w5' s7' s8' s9' s10' s11' s12' s13', Deck dk' ∧ frz w3' = .lst (kindsL kd) ∧ frz w4' = .lst LD ∧ frz w5' = .lst numsL ∧
    lb n (sl s0 dk kd w3 w4 w5 s6 s7 s8 s9 s10 s11 s12 s13) = some (.nx (sl s0 dk' kd w3' w4' w5' s6 s7' s8' s9' s10' s11' s12' s13')) := by
  obtain ⟨dk1, w3', k, hd1, h3', hk, e0⟩ := lb0_eq (n := n) (s0 := s0) (w4 := w4) (w5 := w5) (s6 := s6) (s7 := s7) (s8 := s8) (s9 := s9) (s10 := s10) (s11 := s11) (s12 := s12) (s13 := s13) hd h3
  obtain ⟨dk2, w4', one, other, hd2, h4', m1, m2, e1⟩ := lb1_eq (n := n) (s0 := s0) (kd := kd) (w3 := w3') (w5 := w5) (s6 := s6) (s7 := .so false (.va k)) (s8 := s8) (s9 := s9) (s10 := s10) (s11 := s11) (s12 := s12) (s13 := s13) hd1 h4
  obtain ⟨dk3, w5', r, hd3, h5', hr, e2⟩ := lb2_eq (n := n) (s0 := s0) (kd := kd) (w3 := w3') (w4 := w4') (s6 := s6) (s7 := .so false (.va k)) (s8 := s8) (s9 := s9) (s10 := s10) (s11 := .so false (.va (layD one))) (s12 := .so false (.va (layD other))) (s13 := s13) hd2 h5
  obtain ⟨dk4, w5'', g, hd4, h5'', hg, e3⟩ := lb3_eq (n := n) (s0 := s0) (kd := kd) (w3 := w3') (w4 := w4') (s6 := s6) (s7 := .so false (.va k)) (s8 := .so false (.va r)) (s9 := s9) (s10 := s10) (s11 := .so false (.va (layD one))) (s12 := .so false (.va (layD other))) (s13 := s13) hd3 h5'
  have fin : ∃ r' g' d s13', lbR n (sl s0 dk4 kd w3' w4' w5'' s6 (.so false (.va k)) (.so false (.va r)) (.so false (.va g)) s10 (.so false (.va (layD one))) (.so false (.va (layD other))) s13) =
      some (.nx (sl s0 dk4 kd w3' w4' w5'' s6 (.so false (.va k)) r' g' d (.so false (.va (layD one))) (.so false (.va (layD other))) s13')) := by
    rcases hk with rfl | hk
    · by_cases hb : bndB 6 r = false ∨ bndB 8 g = false
      · exact ⟨_, _, _, _, due_n gk hr hg hb⟩
      · simp only [not_or, Bool.not_eq_false] at hb
        obtain ⟨P, rfl, hP⟩ := bnd_int hb.1
        obtain ⟨G, rfl, hG⟩ := bnd_int hb.2
        cases q : (within P G one && within P G other) with
        | false => exact ⟨_, _, _, _, due_f gk (by omega) (by omega) q⟩
        | true =>
          rw [Bool.and_eq_true] at q
          obtain ⟨r', g', e⟩ := due_t (n := n) (s0 := s0) (dk := dk4) (w3 := w3') (w4 := w4') (w5 := w5'') (s6 := s6) (s10 := s10) (s13 := s13) gk (by omega) (by omega) m1 m2 q.1 q.2
          exact ⟨_, _, _, _, e⟩
    · obtain ⟨a, b⟩ := kinds_bad gk hk
      exact ⟨_, _, _, _, due_k a b⟩
  obtain ⟨r', g', d, s13', e4⟩ := fin
  refine ⟨dk4, w3', w4', w5'', .so false (.va k), r', g', d, .so false (.va (layD one)), .so false (.va (layD other)), s13', hd4, h3', h4', h5'', ?_⟩
  rw [lb_un]
  simp [e0, e1, e2, e3, e4]
end
end FL
set_option Elab.async false
set_option linter.all false
set_option maxRecDepth 100000
set_option maxHeartbeats 1000000
/-! V9: the law -/
namespace FL
open PySem PySem.Spec PyProof.Rows L2
def obW (fs : List Int) : W := .ob "Layout" ((layFs fs).map fun p => (p.1, W.va p.2))
theorem frz_obW (fs : List Int) : frz (obW fs) = layD fs := frz_lay fs
theorem isi_ll (fs : List Int) : oIsi [lI fs, .tup [.ty "list", .ty "tuple"]] = some (.bl true) := (by rfl)
theorem F_Layout_lI {fs : List Int} (h : trim fs = fs) (h0 : ∀ x ∈ fs, 0 ≤ x) (hl : fs.length ≤ 41) : F_Layout (.ob "Layout" []) [lI fs] = some (.ret (.va .non) (obW fs)) := by
  have sz : fs.length ≤ sizeLine := le_sz (by omega)
  have all1 : oAll [.lst (fs.map fun _ => D.bl true)] = some (.bl true) := by rw [all_bl]; simp
  have tr := F_trimmed_lI fs (by omega)
  rw [h] at tr
  have h40 : ¬(40 : Int) < fs.length - 1 := by omega
  simp [F_Layout, f_Layout, sz2, isi_ll, sz]
  rw [lc_map1 (fun d : Int => D.int d) (fun _ => D.bl true)]
  · simp [all1, tr, vas?, putDF, e_fldput, e_FldO, sfd, sfk, sdk, bdf, bkf, bkd, List.lookup, h40, sz2, layFs, obW]
  · intro x hx
    have := h0 x hx
    simp [lcStep, F_is_integer_eq, this]
theorem oListT (xs : List D) : oList [.tup xs] = some xs := (by rfl)
theorem slT1 (xs : List D) : oSlT (.tup xs) none (some 1) = some (.tup (xs.take 1)) := by
  simp only [oSlT]
  rw [show (1 : Int) = ((1 : Nat) : Int) from rfl, cut_take]
theorem addT {xs ys : List D} (h : xs.length + ys.length ≤ sizeLine) : oAdd (.tup xs) (.tup ys) = some (.tup (xs ++ ys)) := by
  simp [oAdd, oAddI, oInt, oAddS, oCatT, h]
theorem pow30 : oPow (.int 10) (.int 30) = some (.int 1000000000000000000000000000000) := by
  have : oPow (.int 10) (.int 30) = some (.int (10 ^ 30)) := rfl
  rw [this]; rfl
theorem neg1 : oNeg (.int 1) = some (.int (-1)) := rfl
theorem o9 : oMul (lI [0]) (.int 9) = some (lI [0, 0, 0, 0, 0, 0, 0, 0, 0]) := rep_0 9 (by omega)
theorem a10 : oAdd (lI [0, 0, 0, 0, 0, 0, 0, 0, 0]) (lI [1]) = some (lI [0, 0, 0, 0, 0, 0, 0, 0, 0, 1]) := add_lI [0, 0, 0, 0, 0, 0, 0, 0, 0] [1] (le_sz (by decide))
section
variable {s0 : D} {dk w3 : W} {kd : List (Str × Int)} {n : Nat} {t : Sl}
theorem la2_eq (g : GoodK kd) : la2 n [.so false (.va s0), .so false dk, .so false (.va (kD2 kd)), .no, .no, .no, .no, .no, .no, .no, .no, .no, .no, .no, t] =
    some (.nx [.so false (.va s0), .so false dk, .so false (.va (kD2 kd)), .so false (.ls (kindsL kd)), .no, .no, .no, .no, .no, .no, .no, .no, .no, .no, t]) := by
  have g8 := g.eight
  have a : oAdd (.tup (kd.map vD)) (.tup ((kd.map vD).take 1)) = some (.tup (kd.map vD ++ (kd.map vD).take 1)) := addT (le_sz (by simp; omega))
  have e : kindsL kd = [.non, .tup [], .lst (kd.map vD), .tup ((kd.map vD).take 1), .tup (kd.map vD ++ (kd.map vD).take 1), ab1, .str "kind", ab2] := by
    simp [kindsL, kD2, List.map_take]
  rw [e]
  unfold ab1 ab2 kD2
  generalize kd.map vD = X at *
  have sz3 : 3 ≤ sizeLine := le_sz (by omega)
  have szz : 0 ≤ sizeLine := le_sz (by omega)
  simp [la2, oListT, slT1, a, sz2, sz3, sz8, szz]
theorem la3_eq : la3 n [.so false (.va s0), .so false dk, .so false (.va (kD2 kd)), .so false w3, .no, .no, .no, .no, .no, .no, .no, .no, .no, .no, t] =
    some (.nx [.so false (.va s0), .so false dk, .so false (.va (kD2 kd)), .so false w3, .so false (.ls LD), .no, .no, .no, .no, .no, .no, .no, .no, .no, t]) := by
  have l0 : F_Layout (.ob "Layout" []) [.tup []] = some (.ret (.va .non) (obW [])) := F_Layout_eq (fs := []) rfl (fun _ h => nomatch h) (by decide)
  have l1 : F_Layout (.ob "Layout" []) [.tup [.int 1]] = some (.ret (.va .non) (obW [1])) := F_Layout_eq (fs := [1]) (by decide) (by decide) (by decide)
  have l2 : F_Layout (.ob "Layout" []) [.tup [.int 0, .int 1]] = some (.ret (.va .non) (obW [0, 1])) := F_Layout_eq (fs := [0, 1]) (by decide) (by decide) (by decide)
  have l3 : F_Layout (.ob "Layout" []) [.tup [.int 7]] = some (.ret (.va .non) (obW [7])) := F_Layout_eq (fs := [7]) (by decide) (by decide) (by decide)
  have l4 : F_Layout (.ob "Layout" []) [.tup [.int 0, .int 0, .int 0, .int 2]] = some (.ret (.va .non) (obW [0, 0, 0, 2])) := F_Layout_eq (fs := [0, 0, 0, 2]) (by decide) (by decide) (by decide)
  have l5 : F_Layout (.ob "Layout" []) [lI [0, 0, 0, 0, 0, 0, 0, 0, 0, 1]] = some (.ret (.va .non) (obW [0, 0, 0, 0, 0, 0, 0, 0, 0, 1])) := F_Layout_lI (by decide) (by decide) (by decide)
  have e : LD = [layD [], layD [1], layD [0, 1], layD [7], layD [0, 0, 0, 2], layD [0, 0, 0, 0, 0, 0, 0, 0, 0, 1]] := rfl
  rw [e]
  have q0 := frz_obW []
  have q1 := frz_obW [1]
  have q2 := frz_obW [0, 1]
  have q3 := frz_obW [7]
  have q4 := frz_obW [0, 0, 0, 2]
  have q5 := frz_obW [0, 0, 0, 0, 0, 0, 0, 0, 0, 1]
  have a := a10
  generalize obW [] = b0 at *
  generalize obW [1] = b1 at *
  generalize obW [0, 1] = b2 at *
  generalize obW [7] = b3 at *
  generalize obW [0, 0, 0, 2] = b4 at *
  generalize obW [0, 0, 0, 0, 0, 0, 0, 0, 0, 1] = b5 at *
  generalize lI [0, 0, 0, 0, 0, 0, 0, 0, 0, 1] = L at *
  have o := o9
  generalize lI [0, 0, 0, 0, 0, 0, 0, 0, 0] = L9 at *
  have sz4 : 4 ≤ sizeLine := le_sz (by omega)
  have sz6 : 6 ≤ sizeLine := le_sz (by omega)
  simp [la3, l0, l1, l2, l3, l4, l5, q0, q1, q2, q3, q4, q5, o, a, sz1, sz2, sz4, sz6]
theorem la4_eq {w4 : W} : la4 n [.so false (.va s0), .so false dk, .so false (.va (kD2 kd)), .so false w3, .so false w4, .no, .no, .no, .no, .no, .no, .no, .no, .no, t] =
    some (.nx [.so false (.va s0), .so false dk, .so false (.va (kD2 kd)), .so false w3, .so false w4, .so false (.ls numsL), .no, .no, .no, .no, .no, .no, .no, .no, t]) := by
  have sz14 : 14 ≤ sizeLine := le_sz (by omega)
  simp [la4, neg1, pow30, sz1, sz14, numsL]
end
end FL
set_option Elab.async false
set_option linter.all false
set_option maxRecDepth 100000
set_option maxHeartbeats 1000000
/-! V10: the law, whole -/
namespace FL
open PySem PySem.Spec PyProof.Rows L2
theorem pure65 (ns : List Int) (hn : ns.length ≤ 63) : F_law [.xls (ns.map .int)] = some (.ret (.va (.bl true))) := by
  obtain ⟨dk0, hd0, e0⟩ := deck_of_eq ns hn
  obtain ⟨d, dk1, m1, hd1, e1⟩ := pick_eq hd0 (ds := [.int 2, .int 3, .int 8]) (by simp) (by decide)
  obtain ⟨m, rfl, m2, m8⟩ : ∃ m : Int, d = .int m ∧ 2 ≤ m ∧ m ≤ 8 := by
    simp only [List.mem_cons, List.not_mem_nil, or_false] at m1
    rcases m1 with rfl | rfl | rfl
    · exact ⟨2, rfl, by omega, by omega⟩
    · exact ⟨3, rfl, by omega, by omega⟩
    · exact ⟨8, rfl, by omega, by omega⟩
  obtain ⟨dk2, kd, hd2, gk, _, e2⟩ := F_some_kind_eq hd1 m2 m8
  obtain ⟨s0, es0⟩ : ∃ s0, s0 = D.xls (ns.map .int) := ⟨_, rfl⟩
  rw [← es0] at e0 ⊢
  have rg : oRange1 [.int 12] = some ((List.range 12).map fun n : Nat => D.int (n : Nat)) := by
    have h := oRange1_nat 12 (by omega)
    rw [rangeD_0] at h
    exact h
  have f0 : la0 fuel [.so false (.va s0), .no, .no, .no, .no, .no, .no, .no, .no, .no, .no, .no, .no, .no, .tab "_law_words" qLam] = some (.nx [.so false (.va s0), .so false dk0, .no, .no, .no, .no, .no, .no, .no, .no, .no, .no, .no, .no, .tab "_law_words" qLam]) := by
    simp [la0, e0]
  have sz3 : 3 ≤ sizeLine := le_sz (by omega)
  have f1 : la1 fuel [.so false (.va s0), .so false dk0, .no, .no, .no, .no, .no, .no, .no, .no, .no, .no, .no, .no, .tab "_law_words" qLam] = some (.nx [.so false (.va s0), .so false dk2, .so false (.va (kD2 kd)), .no, .no, .no, .no, .no, .no, .no, .no, .no, .no, .no, .tab "_law_words" qLam]) := by
    simp [la1, e_CallI, sz3, e1, e2]
  have f2 := la2_eq (n := fuel) (s0 := s0) (dk := dk2) (t := .tab "_law_words" qLam) gk
  have f3 := la3_eq (n := fuel) (s0 := s0) (dk := dk2) (kd := kd) (w3 := .ls (kindsL kd)) (t := .tab "_law_words" qLam)
  have f4 := la4_eq (n := fuel) (s0 := s0) (dk := dk2) (kd := kd) (w3 := .ls (kindsL kd)) (w4 := .ls LD) (t := .tab "_law_words" qLam)
  obtain ⟨ρ', f5, dk', w3', w4', w5', t6, t7, t8, t9, t10, t11, t12, t13, _, _, _, _, rfl⟩ := for_pre0 (n := fuel) (tg := tName 6) (body := lb)
    (fun (_ : List Nat) ρ => ∃ dk w3 w4 w5 s6 s7 s8 s9 s10 s11 s12 s13, Deck dk ∧ frz w3 = .lst (kindsL kd) ∧ frz w4 = .lst LD ∧ frz w5 = .lst numsL ∧ ρ = sl s0 dk kd w3 w4 w5 s6 s7 s8 s9 s10 s11 s12 s13)
    (fun n : Nat => D.int (n : Nat)) (List.range 12) (sl s0 dk2 kd (.ls (kindsL kd)) (.ls LD) (.ls numsL) .no .no .no .no .no .no .no .no)
    (by
      rintro pr x post ρ e ⟨dk, w3, w4, w5, s6, s7, s8, s9, s10, s11, s12, s13, hd, h3, h4, h5, rfl⟩
      obtain ⟨dk', w3', w4', w5', s7', s8', s9', s10', s11', s12', s13', hd', h3', h4', h5', e'⟩ := lb_eq (n := fuel) (s0 := s0) (s6 := .so false (.va (.int x))) (s7 := s7) (s8 := s8) (s9 := s9) (s10 := s10) (s11 := s11) (s12 := s12) (s13 := s13) hd gk h3 h4 h5
      refine ⟨sl s0 dk' kd w3' w4' w5' (.so false (.va (.int x))) s7' s8' s9' s10' s11' s12' s13', for_name (by simp [sl]) ?_, dk', w3', w4', w5', .so false (.va (.int x)), s7', s8', s9', s10', s11', s12', s13', hd', h3', h4', h5', rfl⟩
      exact e')
    ⟨dk2, .ls (kindsL kd), .ls LD, .ls numsL, .no, .no, .no, .no, .no, .no, .no, .no, hd2, by simp, by simp, by simp, rfl⟩
  rw [F_law_un]
  unfold runT
  rw [if_pos (show [s0].length = 1 from rfl)]
  simp only [sl] at f5
  simp [e_initP, f0, f1, f2, f3, f4, rg, f5]
end FL
set_option Elab.async false
set_option linter.all false
set_option maxRecDepth 100000
set_option maxHeartbeats 0
/-! the head: the facts by names -/
namespace FL
open PySem PySem.Spec PyProof.Rows L2
def dd_is_integer : He.DefD := ⟨("is_integer", none), "is_integer", "is_integer", defArgs s_is_integer, defBody s_is_integer, defScope s_is_integer, [], []⟩
def dd_is_name : He.DefD := ⟨("is_name", none), "is_name", "is_name", defArgs s_is_name, defBody s_is_name, defScope s_is_name, [], []⟩
def dd_is_variant : He.DefD := ⟨("is_variant", none), "is_variant", "is_variant", defArgs s_is_variant, defBody s_is_variant, defScope s_is_variant, [], []⟩
def dd_is_kind : He.DefD := ⟨("is_kind", none), "is_kind", "is_kind", defArgs s_is_kind, defBody s_is_kind, defScope s_is_kind, [], []⟩
def dd_need_kind : He.DefD := ⟨("need_kind", none), "need_kind", "need_kind", defArgs s_need_kind, defBody s_need_kind, defScope s_need_kind, [], []⟩
def dd_trimmed : He.DefD := ⟨("trimmed", none), "trimmed", "trimmed", defArgs s_trimmed, defBody s_trimmed, defScope s_trimmed, [], []⟩
def dd_factor_at : He.DefD := ⟨("factor_at", none), "factor_at", "factor_at", defArgs s_factor_at, defBody s_factor_at, defScope s_factor_at, [], []⟩
def dd_degrees_of : He.DefD := ⟨("degrees_of", none), "degrees_of", "degrees_of", defArgs s_degrees_of, defBody s_degrees_of, defScope s_degrees_of, [], []⟩
def dd_are_open_numbers : He.DefD := ⟨("are_open_numbers", none), "are_open_numbers", "are_open_numbers", defArgs s_are_open_numbers, defBody s_are_open_numbers, defScope s_are_open_numbers, [], []⟩
def dd_are_close_numbers : He.DefD := ⟨("are_close_numbers", none), "are_close_numbers", "are_close_numbers", defArgs s_are_close_numbers, defBody s_are_close_numbers, defScope s_are_close_numbers, [], []⟩
def dd_are_move_numbers : He.DefD := ⟨("are_move_numbers", none), "are_move_numbers", "are_move_numbers", defArgs s_are_move_numbers, defBody s_are_move_numbers, defScope s_are_move_numbers, [], []⟩
def dd_are_turn_numbers : He.DefD := ⟨("are_turn_numbers", none), "are_turn_numbers", "are_turn_numbers", defArgs s_are_turn_numbers, defBody s_are_turn_numbers, defScope s_are_turn_numbers, [], []⟩
def dd_are_numbers : He.DefD := ⟨("are_numbers", none), "are_numbers", "are_numbers", defArgs s_are_numbers, defBody s_are_numbers, defScope s_are_numbers, [], []⟩
def dd_is_step_at : He.DefD := ⟨("is_step_at", none), "is_step_at", "is_step_at", defArgs s_is_step_at, defBody s_is_step_at, defScope s_is_step_at, [], []⟩
def dd_changed : He.DefD := ⟨("changed", none), "changed", "changed", defArgs s_changed, defBody s_changed, defScope s_changed, [], []⟩
def dd_factors_behind : He.DefD := ⟨("factors_behind", none), "factors_behind", "factors_behind", defArgs s_factors_behind, defBody s_factors_behind, defScope s_factors_behind, [], []⟩
def dd_are_within : He.DefD := ⟨("are_within", none), "are_within", "are_within", defArgs s_are_within, defBody s_are_within, defScope s_are_within, [], []⟩
def dd_need_bounds : He.DefD := ⟨("need_bounds", none), "need_bounds", "need_bounds", defArgs s_need_bounds, defBody s_need_bounds, defScope s_need_bounds, [], []⟩
def dd_Layout : He.DefD := ⟨("Layout", some "__init__"), "__init__", "Layout.__init__", defArgs s_Layout, defBody s_Layout, defScope s_Layout, [], []⟩
def dd_neighbours : He.DefD := ⟨("neighbours", none), "neighbours", "neighbours", defArgs s_neighbours, defBody s_neighbours, defScope s_neighbours, [], []⟩
def dd_reached : He.DefD := ⟨("reached", none), "reached", "reached", defArgs s_reached, defBody s_reached, defScope s_reached, [], []⟩
def dd_way_to : He.DefD := ⟨("way_to", none), "way_to", "way_to", defArgs s_way_to, defBody s_way_to, defScope s_way_to, [], []⟩
def dd_shortest : He.DefD := ⟨("shortest", none), "shortest", "shortest", defArgs s_shortest, defBody s_shortest, defScope s_shortest, [], []⟩
def dd_distance : He.DefD := ⟨("distance", none), "distance", "distance", defArgs s_distance, defBody s_distance, defScope s_distance, [], []⟩
def dd_price_paper : He.DefD := ⟨("price_paper", none), "price_paper", "price_paper", defArgs s_price_paper, defBody s_price_paper, defScope s_price_paper, [], []⟩
def dd_closed_paper : He.DefD := ⟨("closed_paper", none), "closed_paper", "closed_paper", defArgs s_closed_paper, defBody s_closed_paper, defScope s_closed_paper, [], []⟩
def dd_are_factors : He.DefD := ⟨("are_factors", none), "are_factors", "are_factors", defArgs s_are_factors, defBody s_are_factors, defScope s_are_factors, [], []⟩
def dd_shows_distance : He.DefD := ⟨("shows_distance", none), "shows_distance", "shows_distance", defArgs s_shows_distance, defBody s_shows_distance, defScope s_shows_distance, [], []⟩
def dd_shows_apart : He.DefD := ⟨("shows_apart", none), "shows_apart", "shows_apart", defArgs s_shows_apart, defBody s_shows_apart, defScope s_shows_apart, [], []⟩
def dd__law_mixed : He.DefD := ⟨("_law_mixed", none), "_law_mixed", "_law_mixed", defArgs s__law_mixed, defBody s__law_mixed, defScope s__law_mixed, [], []⟩
def dd__law_deck_of : He.DefD := ⟨("_law_deck_of", none), "_law_deck_of", "_law_deck_of", defArgs s__law_deck_of, defBody s__law_deck_of, defScope s__law_deck_of, [], []⟩
def dd__law_below : He.DefD := ⟨("_law_below", none), "_law_below", "_law_below", defArgs s__law_below, defBody s__law_below, defScope s__law_below, [], []⟩
def dd__law_pick : He.DefD := ⟨("_law_pick", none), "_law_pick", "_law_pick", defArgs s__law_pick, defBody s__law_pick, defScope s__law_pick, [], []⟩
def dd__law_some_kind : He.DefD := ⟨("_law_some_kind", none), "_law_some_kind", "_law_some_kind", defArgs s__law_some_kind, defBody s__law_some_kind, defScope s__law_some_kind, [], []⟩
def dd__law_is_bound : He.DefD := ⟨("_law_is_bound", none), "_law_is_bound", "_law_is_bound", defArgs s__law_is_bound, defBody s__law_is_bound, defScope s__law_is_bound, [], []⟩
def dd__law_word_of : He.DefD := ⟨("_law_word_of", none), "_law_word_of", "_law_word_of", defArgs s__law_word_of, defBody s__law_word_of, defScope s__law_word_of, [], []⟩
def dd__law_words : He.DefD := ⟨("_law_words", none), "_law_words", "_law_words", defArgs s__law_words, defBody s__law_words, defScope s__law_words, [], []⟩
def dd_law : He.DefD := ⟨("law", none), "law", "law", defArgs s_law, defBody s_law, defScope s_law, [], []⟩
def hfn0 : List He.DefD := [dd_is_integer, dd_is_name, dd_is_variant, dd_is_kind, dd_need_kind, dd_trimmed, dd_factor_at, dd_degrees_of, dd_are_open_numbers, dd_are_close_numbers, dd_are_move_numbers, dd_are_turn_numbers, dd_are_numbers, dd_is_step_at, dd_changed, dd_factors_behind, dd_are_within, dd_need_bounds, dd_Layout, dd_neighbours, dd_reached, dd_way_to, dd_shortest, dd_distance, dd_price_paper, dd_closed_paper, dd_are_factors, dd_shows_distance, dd_shows_apart, dd__law_mixed]
def hfn1 : List He.DefD := [dd__law_deck_of, dd__law_below, dd__law_pick, dd__law_some_kind, dd__law_is_bound, dd__law_word_of, dd__law_words, dd_law]
def hfn : List He.DefD := hfn0 ++ hfn1
def hfa0 : List He.Fa := [.free "isinstance", .free "int", .free "bool", .free "str", .free "len", .int "MAX_NAME" 8, .str "LETTERS" "abcdefghijklmnopqrstuvwxyz", .free "all", .str "FIGURES" "0123456789", .free "tuple", .glo "is_name", .glo "is_integer", .int "MAX_PARTS" 4, .int "MAX_VARIANTS" 8, .glo "is_variant", .free "min", .free "max", .glo "is_kind", .exc "NoKind", .glo "NoKind", .free "list", .glo "factor_at", .glo "degrees_of", .glo "are_open_numbers", .glo "are_close_numbers", .glo "are_move_numbers", .glo "are_turn_numbers", .glo "LENGTHS", .glo "are_numbers", .free "range"]
def hfa1 : List He.Fa := [.free "sum", .glo "trimmed", .free "enumerate", .glo "changed", .glo "need_kind", .int "MOST_PLACES" 6, .exc "NoNumber", .glo "NoNumber", .int "MOST_DEGREE" 8, .glo "are_within", .cls "Layout", .noat "Layout" "factors", .exc "Mismatch", .glo "Mismatch", .exc "NoLayout", .glo "NoLayout", .noat "Layout" "degree", .int "MAX_DEGREE" 40, .noat "Layout" "key", .glo "is_step_at", .glo "factors_behind", .glo "neighbours", .glo "need_bounds", .glo "reached", .glo "way_to", .mkr "Layout", .glo "Layout", .glo "shortest", .glo "distance", .free "dict"]
def hfa2 : List He.Fa := [.glo "are_factors", .free "abs", .glo "_law_mixed", .glo "_law_below", .glo "_law_pick", .free "ValueError", .glo "price_paper", .glo "closed_paper", .glo "shows_distance", .glo "shows_apart", .glo "LayoutError", .glo "_law_word_of", .glo "_law_deck_of", .glo "_law_some_kind", .glo "_law_is_bound", .glo "_law_words", .glo "law"]
def hfa : List He.Fa := hfa0 ++ hfa1 ++ hfa2
def hloose0 : List Str := ["_wall", "LayoutError", "TooMany", "NoKind", "NoLayout", "NoNumber", "Mismatch", "LETTERS", "FIGURES", "MAX_NAME", "is_integer", "is_name", "MAX_VARIANTS", "MAX_PARTS", "is_variant", "is_kind", "need_kind", "MAX_DEGREE", "trimmed", "added", "multiplied", "factors_of", "text_of", "Layout", "factor_at", "LENGTHS", "degrees_of", "changed", "are_open_numbers", "are_close_numbers"]
def hloose1 : List Str := ["are_move_numbers", "are_turn_numbers", "are_numbers", "is_step_at", "factors_behind", "MOST_PLACES", "MOST_DEGREE", "are_within", "need_bounds", "neighbours", "reached", "way_to", "shortest", "distance", "price_paper", "closed_paper", "are_factors", "shows_distance", "shows_apart", "_law_mixed", "_law_deck_of", "_law_below", "_law_pick", "_law_some_kind", "_law_word_of", "_law_words", "_law_is_bound"]
def hloose : List Str := hloose0 ++ hloose1
def lawAt : Nat := 65
end FL
set_option Elab.async false
set_option maxHeartbeats 0
set_option maxRecDepth 100000
section
open PySem PySem.W PyProof.Rows
open_top head65 for PySem.Challenge.rw_layoutswap_k65_fewest_refused
end
set_option Elab.async false
set_option linter.all false
set_option maxRecDepth 100000
set_option maxHeartbeats 0
namespace FL
open PySem PySem.Spec PyProof.Rows L2
def hget : List GetD := [⟨"Layout", "total", "Layout.total", defArgs s_total, defBody s_total, defScope s_total⟩]
def hsta : List GetD := []
def hts : List He.Tab := [(fun K => He.ga K "LENGTHS", ["open", "close", "move", "turn"])]
def hex_ (K : PySem.W.Frag) : Bool := tabB K "LENGTHS" tab_LENGTHS && (isKB K excs3 && exmB K excs3 "LayoutError")
theorem f1 (w : World) : hex_ (head65.heap_39 w.params) = true := by kernel_rfl
theorem f2 (w : World) : (hfa.all fun f => He.Fa.ok (head65.heap_39 w.params) f) = true := by kernel_rfl
theorem f3 (w : World) : (hfn.all fun f => He.DefD.ok (head65.heap_39 w.params) f) = true := by kernel_rfl
theorem f4 (w : World) : hfn.map (fun d => He.fnW (head65.heap_39 w.params) d.at_) = hfn.map He.DefD.val := by kernel_rfl
theorem f5 (w : World) : (hget.all (propB (head65.heap_39 w.params))) = true := by kernel_rfl
theorem f6 (w : World) : hget.map (fun d => fnA (head65.heap_39 w.params) (getA (head65.heap_39 w.params) d.c d.m)) = (hget.map fun d => some (d.m, d.qual, d.params, .stmts d.body, d.scope, mainGlobals, [], builtinsNs)) := by kernel_rfl
theorem f7 (w : World) : hts.map (fun t => He.dicW (head65.heap_39 w.params) (t.1 (head65.heap_39 w.params))) = hts.map (fun t => some (He.keysIn w.params t.2)) := by kernel_rfl
theorem f8 (w : World) : (He.cT (head65.heap_39 w.params) ("_law_words", none)).2 = 527 := by kernel_rfl
theorem f9 (w : World) : PySem.W.codeHdIn (head65.heap_39 w.params) (He.cT (head65.heap_39 w.params) ("_law_words", none)).1 527 = true := by kernel_rfl
theorem f10 (w : World) : (head65.heap_39 w.params).lookup 527 = none := by kernel_rfl
end FL
set_option Elab.async false
set_option linter.all false
set_option maxRecDepth 100000
set_option maxHeartbeats 4000000
namespace FL
open PySem PySem.Spec PyProof.Rows L2
section
variable {P : Program} {w : World} {K : PySem.W.Frag} {mg : Str → Option Value} {base h : Heap}
abbrev SZ (w : World) (K : PySem.W.Frag) : Prop := SaysZ hfa hfn hts hget hsta hex_ w K
theorem a_fr_isinstance (c : SZ w K) (X : K.In h) (G : h.Ns mainGlobals mg) : mg "isinstance" = none := He.free_ok X G (c.y.d.fact 0)
theorem a_fr_int (c : SZ w K) (X : K.In h) (G : h.Ns mainGlobals mg) : mg "int" = none := He.free_ok X G (c.y.d.fact 1)
theorem a_fr_bool (c : SZ w K) (X : K.In h) (G : h.Ns mainGlobals mg) : mg "bool" = none := He.free_ok X G (c.y.d.fact 2)
theorem a_c_is_integer (c : SZ w K) (X : K.In h) (G : h.Ns mainGlobals mg) : CalK P w K mg base 1 "is_integer" 1 (spP K F_is_integer) := by
  obtain ⟨fd, F⟩ := c.y.d.def_ 0
  exact ⟨_, fd, _, fn_okP F sc_is_integer (by decide) fun E => d_is_integer (a_fr_isinstance c X G) (a_fr_int c X G) (a_fr_bool c X G) E, He.glo_ok X G (c.y.d.fact 11), F.kp, (F.bindsN fun _ _ _ _ _ _ us hl => match us, hl with | [x0], _ => rfl), rfl⟩
theorem a_fr_str (c : SZ w K) (X : K.In h) (G : h.Ns mainGlobals mg) : mg "str" = none := He.free_ok X G (c.y.d.fact 3)
theorem a_fr_len (c : SZ w K) (X : K.In h) (G : h.Ns mainGlobals mg) : mg "len" = none := He.free_ok X G (c.y.d.fact 4)
theorem a_k_MAX_NAME (c : SZ w K) (X : K.In h) (G : h.Ns mainGlobals mg) : ∃ t, mg "MAX_NAME" = some (.int 8 t) := He.int_ok X G (c.y.d.fact 5)
theorem a_k_LETTERS (c : SZ w K) (X : K.In h) (G : h.Ns mainGlobals mg) : ∃ t, mg "LETTERS" = some (.str "abcdefghijklmnopqrstuvwxyz" t) := He.str_ok X G (c.y.d.fact 6)
theorem a_fr_all (c : SZ w K) (X : K.In h) (G : h.Ns mainGlobals mg) : mg "all" = none := He.free_ok X G (c.y.d.fact 7)
theorem a_k_FIGURES (c : SZ w K) (X : K.In h) (G : h.Ns mainGlobals mg) : ∃ t, mg "FIGURES" = some (.str "0123456789" t) := He.str_ok X G (c.y.d.fact 8)
theorem a_c_is_name (c : SZ w K) (X : K.In h) (G : h.Ns mainGlobals mg) : CalK P w K mg base 1 "is_name" 1 (spP K F_is_name) := by
  obtain ⟨fd, F⟩ := c.y.d.def_ 1
  exact ⟨_, fd, _, fn_okP F sc_is_name (by decide) fun E => d_is_name (a_fr_isinstance c X G) (a_fr_str c X G) (a_fr_len c X G) (a_k_MAX_NAME c X G) (a_k_LETTERS c X G) (a_fr_all c X G) (a_k_FIGURES c X G) E, He.glo_ok X G (c.y.d.fact 10), F.kp, (F.bindsN fun _ _ _ _ _ _ us hl => match us, hl with | [x0], _ => rfl), rfl⟩
theorem a_fr_tuple (c : SZ w K) (X : K.In h) (G : h.Ns mainGlobals mg) : mg "tuple" = none := He.free_ok X G (c.y.d.fact 9)
theorem a_k_MAX_PARTS (c : SZ w K) (X : K.In h) (G : h.Ns mainGlobals mg) : ∃ t, mg "MAX_PARTS" = some (.int 4 t) := He.int_ok X G (c.y.d.fact 12)
theorem a_c_is_variant (c : SZ w K) (X : K.In h) (G : h.Ns mainGlobals mg) : CalK P w K mg base 2 "is_variant" 1 (spP K F_is_variant) := by
  obtain ⟨fd, F⟩ := c.y.d.def_ 2
  exact ⟨_, fd, _, fn_okP F sc_is_variant (by decide) fun E => d_is_variant (a_fr_isinstance c X G) (a_fr_tuple c X G) (a_fr_len c X G) (a_c_is_name c X G) (a_c_is_integer c X G) (a_k_MAX_PARTS c X G) E, He.glo_ok X G (c.y.d.fact 14), F.kp, (F.bindsN fun _ _ _ _ _ _ us hl => match us, hl with | [x0], _ => rfl), rfl⟩
theorem a_k_MAX_VARIANTS (c : SZ w K) (X : K.In h) (G : h.Ns mainGlobals mg) : ∃ t, mg "MAX_VARIANTS" = some (.int 8 t) := He.int_ok X G (c.y.d.fact 13)
theorem a_fr_min (c : SZ w K) (X : K.In h) (G : h.Ns mainGlobals mg) : mg "min" = none := He.free_ok X G (c.y.d.fact 15)
theorem a_fr_max (c : SZ w K) (X : K.In h) (G : h.Ns mainGlobals mg) : mg "max" = none := He.free_ok X G (c.y.d.fact 16)
theorem a_c_is_kind (c : SZ w K) (X : K.In h) (G : h.Ns mainGlobals mg) : CalK P w K mg base 3 "is_kind" 1 (spP K F_is_kind) := by
  obtain ⟨fd, F⟩ := c.y.d.def_ 3
  exact ⟨_, fd, _, fn_okP F sc_is_kind (by decide) fun E => d_is_kind (a_fr_isinstance c X G) (a_fr_tuple c X G) (a_fr_len c X G) (a_k_MAX_VARIANTS c X G) (a_fr_all c X G) (a_c_is_variant c X G) (a_fr_min c X G) (a_fr_max c X G) E, He.glo_ok X G (c.y.d.fact 17), F.kp, (F.bindsN fun _ _ _ _ _ _ us hl => match us, hl with | [x0], _ => rfl), rfl⟩
theorem a_e_NoKind (c : SZ w K) (X : K.In h) (G : h.Ns mainGlobals mg) : ExcFK K mg "NoKind" "NoKind" := let e := He.exc_ok (c.y.d.fact 18); ⟨e.1, He.glo_ok X G (c.y.d.fact 19), e.2.1, e.2.2.1, e.2.2.2⟩
theorem a_c_need_kind (c : SZ w K) (X : K.In h) (G : h.Ns mainGlobals mg) : CalK P w K mg base 4 "need_kind" 1 (spP K F_need_kind) := by
  obtain ⟨fd, F⟩ := c.y.d.def_ 4
  exact ⟨_, fd, _, fn_okP F sc_need_kind (by decide) fun E => d_need_kind (a_c_is_kind c X G) (a_e_NoKind c X G) E, He.glo_ok X G (c.y.d.fact 34), F.kp, (F.bindsN fun _ _ _ _ _ _ us hl => match us, hl with | [x0], _ => rfl), rfl⟩
theorem a_fr_list (c : SZ w K) (X : K.In h) (G : h.Ns mainGlobals mg) : mg "list" = none := He.free_ok X G (c.y.d.fact 20)
theorem a_c_trimmed (c : SZ w K) (X : K.In h) (G : h.Ns mainGlobals mg) : CalK P w K mg base 1 "trimmed" 1 (spP K F_trimmed) := by
  obtain ⟨fd, F⟩ := c.y.d.def_ 5
  exact ⟨_, fd, _, fn_okP F sc_trimmed (by decide) fun E => d_trimmed (a_fr_list c X G) (a_fr_tuple c X G) E, He.glo_ok X G (c.y.d.fact 31), F.kp, (F.bindsN fun _ _ _ _ _ _ us hl => match us, hl with | [x0], _ => rfl), rfl⟩
theorem a_c_factor_at (c : SZ w K) (X : K.In h) (G : h.Ns mainGlobals mg) : CalK P w K mg base 1 "factor_at" 2 (spP K F_factor_at) := by
  obtain ⟨fd, F⟩ := c.y.d.def_ 6
  exact ⟨_, fd, _, fn_okP F sc_factor_at (by decide) fun E => d_factor_at (a_fr_len c X G) E, He.glo_ok X G (c.y.d.fact 21), F.kp, (F.bindsN fun _ _ _ _ _ _ us hl => match us, hl with | [x0, x1], _ => rfl), rfl⟩
theorem a_c_degrees_of (c : SZ w K) (X : K.In h) (G : h.Ns mainGlobals mg) : CalK P w K mg base 1 "degrees_of" 2 (spP K F_degrees_of) := by
  obtain ⟨fd, F⟩ := c.y.d.def_ 7
  exact ⟨_, fd, _, fn_okP F sc_degrees_of (by decide) fun E => d_degrees_of  E, He.glo_ok X G (c.y.d.fact 22), F.kp, (F.bindsN fun _ _ _ _ _ _ us hl => match us, hl with | [x0, x1], _ => rfl), rfl⟩
theorem a_c_are_open_numbers (c : SZ w K) (X : K.In h) (G : h.Ns mainGlobals mg) : CalK P w K mg base 2 "are_open_numbers" 2 (spP K F_are_open_numbers) := by
  obtain ⟨fd, F⟩ := c.y.d.def_ 8
  exact ⟨_, fd, _, fn_okP F sc_are_open_numbers (by decide) fun E => d_are_open_numbers (a_c_factor_at c X G) E, He.glo_ok X G (c.y.d.fact 23), F.kp, (F.bindsN fun _ _ _ _ _ _ us hl => match us, hl with | [x0, x1], _ => rfl), rfl⟩
theorem a_c_are_close_numbers (c : SZ w K) (X : K.In h) (G : h.Ns mainGlobals mg) : CalK P w K mg base 2 "are_close_numbers" 3 (spP K F_are_close_numbers) := by
  obtain ⟨fd, F⟩ := c.y.d.def_ 9
  exact ⟨_, fd, _, fn_okP F sc_are_close_numbers (by decide) fun E => d_are_close_numbers (a_c_degrees_of c X G) (a_fr_all c X G) (a_c_factor_at c X G) E, He.glo_ok X G (c.y.d.fact 24), F.kp, (F.bindsN fun _ _ _ _ _ _ us hl => match us, hl with | [x0, x1, x2], _ => rfl), rfl⟩
theorem a_c_are_move_numbers (c : SZ w K) (X : K.In h) (G : h.Ns mainGlobals mg) : CalK P w K mg base 2 "are_move_numbers" 2 (spP K F_are_move_numbers) := by
  obtain ⟨fd, F⟩ := c.y.d.def_ 10
  exact ⟨_, fd, _, fn_okP F sc_are_move_numbers (by decide) fun E => d_are_move_numbers (a_c_factor_at c X G) E, He.glo_ok X G (c.y.d.fact 25), F.kp, (F.bindsN fun _ _ _ _ _ _ us hl => match us, hl with | [x0, x1], _ => rfl), rfl⟩
theorem a_c_are_turn_numbers (c : SZ w K) (X : K.In h) (G : h.Ns mainGlobals mg) : CalK P w K mg base 2 "are_turn_numbers" 2 (spP K F_are_turn_numbers) := by
  obtain ⟨fd, F⟩ := c.y.d.def_ 11
  exact ⟨_, fd, _, fn_okP F sc_are_turn_numbers (by decide) fun E => d_are_turn_numbers (a_c_factor_at c X G) E, He.glo_ok X G (c.y.d.fact 26), F.kp, (F.bindsN fun _ _ _ _ _ _ us hl => match us, hl with | [x0, x1], _ => rfl), rfl⟩
theorem a_c_are_numbers (c : SZ w K) (X : K.In h) (G : h.Ns mainGlobals mg) : CalK P w K mg base 3 "are_numbers" 4 (spP K F_are_numbers) := by
  obtain ⟨fd, F⟩ := c.y.d.def_ 12
  exact ⟨_, fd, _, fn_okP F sc_are_numbers (by decide) fun E => d_are_numbers (a_c_are_open_numbers c X G) (a_c_are_close_numbers c X G) (a_c_are_move_numbers c X G) (a_c_are_turn_numbers c X G) E, He.glo_ok X G (c.y.d.fact 28), F.kp, (F.bindsN fun _ _ _ _ _ _ us hl => match us, hl with | [x0, x1, x2, x3], _ => rfl), rfl⟩
theorem a_g_LENGTHS (c : SZ w K) (X : K.In h) (G : h.Ns mainGlobals mg) : mg "LENGTHS" = some (.ref (He.ga K "LENGTHS")) := He.glo_ok X G (c.y.d.fact 27)
theorem a_t_LENGTHS (c : SZ w K) (X : K.In h) (G : h.Ns mainGlobals mg) : Tab K w "LENGTHS" tab_LENGTHS := tab_of (Bool.and_eq_true_iff.mp c.y.b.1).1 (c.y.t.tab 0)
theorem a_c_is_step_at (c : SZ w K) (X : K.In h) (G : h.Ns mainGlobals mg) : CalK P w K mg base 4 "is_step_at" 3 (spP K F_is_step_at) := by
  obtain ⟨fd, F⟩ := c.y.d.def_ 13
  exact ⟨_, fd, _, fn_okP F sc_is_step_at (by decide) fun E => d_is_step_at (a_fr_isinstance c X G) (a_fr_tuple c X G) (a_fr_len c X G) (a_fr_str c X G) (a_g_LENGTHS c X G) (a_t_LENGTHS c X G) (a_fr_all c X G) (a_c_is_integer c X G) (a_c_are_numbers c X G) E, He.glo_ok X G (c.y.d.fact 49), F.kp, (F.bindsN fun _ _ _ _ _ _ us hl => match us, hl with | [x0, x1, x2], _ => rfl), rfl⟩
theorem a_fr_range (c : SZ w K) (X : K.In h) (G : h.Ns mainGlobals mg) : mg "range" = none := He.free_ok X G (c.y.d.fact 29)
theorem a_fr_sum (c : SZ w K) (X : K.In h) (G : h.Ns mainGlobals mg) : mg "sum" = none := He.free_ok X G (c.y.d.fact 30)
theorem a_fr_enumerate (c : SZ w K) (X : K.In h) (G : h.Ns mainGlobals mg) : mg "enumerate" = none := He.free_ok X G (c.y.d.fact 32)
theorem a_c_changed (c : SZ w K) (X : K.In h) (G : h.Ns mainGlobals mg) : CalK P w K mg base 2 "changed" 2 (spP K F_changed) := by
  obtain ⟨fd, F⟩ := c.y.d.def_ 14
  exact ⟨_, fd, _, fn_okP F sc_changed (by decide) fun E => d_changed (a_fr_max c X G) (a_fr_len c X G) (a_fr_range c X G) (a_fr_sum c X G) (a_c_trimmed c X G) (a_fr_enumerate c X G) (a_c_factor_at c X G) E, He.glo_ok X G (c.y.d.fact 33), F.kp, (F.bindsN fun _ _ _ _ _ _ us hl => match us, hl with | [x0, x1], _ => rfl), rfl⟩
theorem a_c_factors_behind (c : SZ w K) (X : K.In h) (G : h.Ns mainGlobals mg) : CalK P w K mg base 3 "factors_behind" 3 (spP K F_factors_behind) := by
  obtain ⟨fd, F⟩ := c.y.d.def_ 15
  exact ⟨_, fd, _, fn_okP F sc_factors_behind (by decide) fun E => d_factors_behind (a_c_changed c X G) (a_c_degrees_of c X G) E, He.glo_ok X G (c.y.d.fact 50), F.kp, (F.bindsN fun _ _ _ _ _ _ us hl => match us, hl with | [x0, x1, x2], _ => rfl), rfl⟩
theorem a_c_are_within (c : SZ w K) (X : K.In h) (G : h.Ns mainGlobals mg) : CalK P w K mg base 1 "are_within" 3 (spP K F_are_within) := by
  obtain ⟨fd, F⟩ := c.y.d.def_ 16
  exact ⟨_, fd, _, fn_okP F sc_are_within (by decide) fun E => d_are_within (a_fr_len c X G) (a_fr_sum c X G) (a_fr_list c X G) E, He.glo_ok X G (c.y.d.fact 39), F.kp, (F.bindsN fun _ _ _ _ _ _ us hl => match us, hl with | [x0, x1, x2], _ => rfl), rfl⟩
theorem a_k_MOST_PLACES (c : SZ w K) (X : K.In h) (G : h.Ns mainGlobals mg) : ∃ t, mg "MOST_PLACES" = some (.int 6 t) := He.int_ok X G (c.y.d.fact 35)
theorem a_e_NoNumber (c : SZ w K) (X : K.In h) (G : h.Ns mainGlobals mg) : ExcFK K mg "NoNumber" "NoNumber" := let e := He.exc_ok (c.y.d.fact 36); ⟨e.1, He.glo_ok X G (c.y.d.fact 37), e.2.1, e.2.2.1, e.2.2.2⟩
theorem a_k_MOST_DEGREE (c : SZ w K) (X : K.In h) (G : h.Ns mainGlobals mg) : ∃ t, mg "MOST_DEGREE" = some (.int 8 t) := He.int_ok X G (c.y.d.fact 38)
theorem a_cls_Layout (c : SZ w K) (X : K.In h) (G : h.Ns mainGlobals mg) : Cls K (He.ga K "Layout") := He.cls_ok (c.y.d.fact 40)
theorem a_noat_factors (c : SZ w K) (X : K.In h) (G : h.Ns mainGlobals mg) : NoAttr K (He.ga K "Layout") "factors" := He.noat_ok (c.y.d.fact 41)
theorem a_e_Mismatch (c : SZ w K) (X : K.In h) (G : h.Ns mainGlobals mg) : ExcFK K mg "Mismatch" "Mismatch" := let e := He.exc_ok (c.y.d.fact 42); ⟨e.1, He.glo_ok X G (c.y.d.fact 43), e.2.1, e.2.2.1, e.2.2.2⟩
theorem a_c_need_bounds (c : SZ w K) (X : K.In h) (G : h.Ns mainGlobals mg) : CalK P w K mg base 5 "need_bounds" 5 (spP K F_need_bounds) := by
  obtain ⟨fd, F⟩ := c.y.d.def_ 17
  exact ⟨_, fd, _, fn_okP F sc_need_bounds (by decide) fun E => d_need_bounds (a_c_need_kind c X G) (a_c_is_integer c X G) (a_k_MOST_PLACES c X G) (a_e_NoNumber c X G) (a_k_MOST_DEGREE c X G) (a_fr_all c X G) (a_c_are_within c X G) (a_cls_Layout c X G) (a_noat_factors c X G) (a_e_Mismatch c X G) E, He.glo_ok X G (c.y.d.fact 52), F.kp, (F.bindsN fun _ _ _ _ _ _ us hl => match us, hl with | [x0, x1, x2, x3, x4], _ => rfl), rfl⟩
theorem a_e_NoLayout (c : SZ w K) (X : K.In h) (G : h.Ns mainGlobals mg) : ExcFK K mg "NoLayout" "NoLayout" := let e := He.exc_ok (c.y.d.fact 44); ⟨e.1, He.glo_ok X G (c.y.d.fact 45), e.2.1, e.2.2.1, e.2.2.2⟩
theorem a_noat_degree (c : SZ w K) (X : K.In h) (G : h.Ns mainGlobals mg) : NoAttr K (He.ga K "Layout") "degree" := He.noat_ok (c.y.d.fact 46)
theorem a_k_MAX_DEGREE (c : SZ w K) (X : K.In h) (G : h.Ns mainGlobals mg) : ∃ t, mg "MAX_DEGREE" = some (.int 40 t) := He.int_ok X G (c.y.d.fact 47)
theorem a_noat_key (c : SZ w K) (X : K.In h) (G : h.Ns mainGlobals mg) : NoAttr K (He.ga K "Layout") "key" := He.noat_ok (c.y.d.fact 48)
theorem a_m_Layout (c : SZ w K) (X : K.In h) (G : h.Ns mainGlobals mg) : CalMK P w K mg base 3 "Layout" "Layout" 2 (spI K F_Layout) := by
  obtain ⟨fd, F⟩ := c.y.d.def_ 18
  exact ⟨_, fd, _, fn_okI F sc_Layout (by decide) fun E => d_Layout (a_fr_isinstance c X G) (a_fr_list c X G) (a_fr_tuple c X G) (a_fr_all c X G) (a_c_is_integer c X G) (a_e_NoLayout c X G) (a_cls_Layout c X G) (a_noat_factors c X G) (a_c_trimmed c X G) (a_noat_degree c X G) (a_fr_len c X G) (a_k_MAX_DEGREE c X G) (a_noat_key c X G) E, He.mkr_ok (c.y.d.fact 55), He.glo_ok X G (c.y.d.fact 56), (F.bindsN fun _ _ _ _ _ _ us hl => match us, hl with | [x0, x1], _ => rfl), rfl⟩
theorem a_p_total (c : SZ w K) (X : K.In h) (G : h.Ns mainGlobals mg) : CalGK P w K mg base 1 "Layout" "total" (spP K F_total) := by
  obtain ⟨fd, pr, F⟩ := c.y.get 0
  exact ⟨_, _, fd, _, pr, He.cls_ok (c.y.d.fact 40), fn_okP F sc_total (by decide) fun E => d_total (a_fr_sum c X G) (a_fr_list c X G) (a_cls_Layout c X G) (a_noat_factors c X G) E, (F.bindsN fun _ _ _ _ _ _ us hl => match us, hl with | [x0], _ => rfl), rfl⟩
theorem a_c_neighbours (c : SZ w K) (X : K.In h) (G : h.Ns mainGlobals mg) : CalK P w K mg base 5 "neighbours" 4 (spP K F_neighbours) := by
  obtain ⟨fd, F⟩ := c.y.d.def_ 19
  exact ⟨_, fd, _, fn_okP F sc_neighbours (by decide) fun E => d_neighbours (a_fr_range c X G) (a_c_is_step_at c X G) (a_c_factors_behind c X G) (a_c_are_within c X G) E, He.glo_ok X G (c.y.d.fact 51), F.kp, (F.bindsN fun _ _ _ _ _ _ us hl => match us, hl with | [x0, x1, x2, x3], _ => rfl), rfl⟩
theorem a_c_reached (c : SZ w K) (X : K.In h) (G : h.Ns mainGlobals mg) : CalK P w K mg base 6 "reached" 5 (spP K F_reached) := by
  obtain ⟨fd, F⟩ := c.y.d.def_ 20
  exact ⟨_, fd, _, fn_okP F sc_reached (by decide) fun E => d_reached (a_cls_Layout c X G) (a_noat_factors c X G) (a_c_neighbours c X G) E, He.glo_ok X G (c.y.d.fact 53), F.kp, (F.bindsN fun _ _ _ _ _ _ us hl => match us, hl with | [x0, x1, x2, x3, x4], _ => rfl), rfl⟩
theorem a_c_way_to (c : SZ w K) (X : K.In h) (G : h.Ns mainGlobals mg) : CalK P w K mg base 1 "way_to" 2 (spP K F_way_to) := by
  obtain ⟨fd, F⟩ := c.y.d.def_ 21
  exact ⟨_, fd, _, fn_okP F sc_way_to (by decide) fun E => d_way_to  E, He.glo_ok X G (c.y.d.fact 54), F.kp, (F.bindsN fun _ _ _ _ _ _ us hl => match us, hl with | [x0, x1], _ => rfl), rfl⟩
theorem a_c_shortest (c : SZ w K) (X : K.In h) (G : h.Ns mainGlobals mg) : CalK P w K mg base 7 "shortest" 5 (spP K F_shortest) := by
  obtain ⟨fd, F⟩ := c.y.d.def_ 22
  exact ⟨_, fd, _, fn_okP F sc_shortest (by decide) fun E => d_shortest (a_c_need_bounds c X G) (a_c_reached c X G) (a_cls_Layout c X G) (a_noat_factors c X G) (a_c_way_to c X G) (a_m_Layout c X G) E, He.glo_ok X G (c.y.d.fact 57), F.kp, (F.bindsN fun _ _ _ _ _ _ us hl => match us, hl with | [x0, x1, x2, x3, x4], _ => rfl), rfl⟩
theorem a_c_distance (c : SZ w K) (X : K.In h) (G : h.Ns mainGlobals mg) : CalK P w K mg base 8 "distance" 5 (spP K F_distance) := by
  obtain ⟨fd, F⟩ := c.y.d.def_ 23
  exact ⟨_, fd, _, fn_okP F sc_distance (by decide) fun E => d_distance (a_c_shortest c X G) (a_fr_len c X G) E, He.glo_ok X G (c.y.d.fact 58), F.kp, (F.bindsN fun _ _ _ _ _ _ us hl => match us, hl with | [x0, x1, x2, x3, x4], _ => rfl), rfl⟩
theorem a_c_price_paper (c : SZ w K) (X : K.In h) (G : h.Ns mainGlobals mg) : CalK P w K mg base 9 "price_paper" 5 (spP K F_price_paper) := by
  obtain ⟨fd, F⟩ := c.y.d.def_ 24
  exact ⟨_, fd, _, fn_okP F sc_price_paper (by decide) fun E => d_price_paper (a_c_distance c X G) (a_c_reached c X G) (a_fr_max c X G) E, He.glo_ok X G (c.y.d.fact 66), F.kp, (F.bindsN fun _ _ _ _ _ _ us hl => match us, hl with | [x0, x1, x2, x3, x4], _ => rfl), rfl⟩
theorem a_c_closed_paper (c : SZ w K) (X : K.In h) (G : h.Ns mainGlobals mg) : CalK P w K mg base 7 "closed_paper" 5 (spP K F_closed_paper) := by
  obtain ⟨fd, F⟩ := c.y.d.def_ 25
  exact ⟨_, fd, _, fn_okP F sc_closed_paper (by decide) fun E => d_closed_paper (a_c_need_bounds c X G) (a_c_reached c X G) (a_cls_Layout c X G) (a_noat_factors c X G) (a_fr_list c X G) E, He.glo_ok X G (c.y.d.fact 67), F.kp, (F.bindsN fun _ _ _ _ _ _ us hl => match us, hl with | [x0, x1, x2, x3, x4], _ => rfl), rfl⟩
theorem a_c_are_factors (c : SZ w K) (X : K.In h) (G : h.Ns mainGlobals mg) : CalK P w K mg base 2 "are_factors" 3 (spP K F_are_factors) := by
  obtain ⟨fd, F⟩ := c.y.d.def_ 26
  exact ⟨_, fd, _, fn_okP F sc_are_factors (by decide) fun E => d_are_factors (a_fr_isinstance c X G) (a_fr_tuple c X G) (a_fr_all c X G) (a_c_is_integer c X G) (a_c_are_within c X G) E, He.glo_ok X G (c.y.d.fact 60), F.kp, (F.bindsN fun _ _ _ _ _ _ us hl => match us, hl with | [x0, x1, x2], _ => rfl), rfl⟩
theorem a_fr_dict (c : SZ w K) (X : K.In h) (G : h.Ns mainGlobals mg) : mg "dict" = none := He.free_ok X G (c.y.d.fact 59)
theorem a_c_shows_distance (c : SZ w K) (X : K.In h) (G : h.Ns mainGlobals mg) : CalK P w K mg base 6 "shows_distance" 7 (spP K F_shows_distance) := by
  obtain ⟨fd, F⟩ := c.y.d.def_ 27
  exact ⟨_, fd, _, fn_okP F sc_shows_distance (by decide) fun E => d_shows_distance (a_c_need_bounds c X G) (a_fr_isinstance c X G) (a_fr_dict c X G) (a_fr_all c X G) (a_fr_list c X G) (a_c_are_factors c X G) (a_c_is_integer c X G) (a_cls_Layout c X G) (a_noat_factors c X G) (a_c_neighbours c X G) E, He.glo_ok X G (c.y.d.fact 68), F.kp, (F.bindsN fun _ _ _ _ _ _ us hl => match us, hl with | [x0, x1, x2, x3, x4, x5, x6], _ => rfl), rfl⟩
theorem a_c_shows_apart (c : SZ w K) (X : K.In h) (G : h.Ns mainGlobals mg) : CalK P w K mg base 6 "shows_apart" 6 (spP K F_shows_apart) := by
  obtain ⟨fd, F⟩ := c.y.d.def_ 28
  exact ⟨_, fd, _, fn_okP F sc_shows_apart (by decide) fun E => d_shows_apart (a_c_need_bounds c X G) (a_fr_isinstance c X G) (a_fr_list c X G) (a_fr_all c X G) (a_c_are_factors c X G) (a_fr_len c X G) (a_cls_Layout c X G) (a_noat_factors c X G) (a_c_neighbours c X G) E, He.glo_ok X G (c.y.d.fact 69), F.kp, (F.bindsN fun _ _ _ _ _ _ us hl => match us, hl with | [x0, x1, x2, x3, x4, x5], _ => rfl), rfl⟩
theorem a_c__law_mixed (c : SZ w K) (X : K.In h) (G : h.Ns mainGlobals mg) : CalK P w K mg base 1 "_law_mixed" 2 (spP K F__law_mixed) := by
  obtain ⟨fd, F⟩ := c.y.d.def_ 29
  exact ⟨_, fd, _, fn_okP F sc__law_mixed (by decide) fun E => d__law_mixed (a_fr_range c X G) E, He.glo_ok X G (c.y.d.fact 62), F.kp, (F.bindsN fun _ _ _ _ _ _ us hl => match us, hl with | [x0, x1], _ => rfl), rfl⟩
theorem a_fr_abs (c : SZ w K) (X : K.In h) (G : h.Ns mainGlobals mg) : mg "abs" = none := He.free_ok X G (c.y.d.fact 61)
theorem a_c__law_deck_of (c : SZ w K) (X : K.In h) (G : h.Ns mainGlobals mg) : CalK P w K mg base 1 "_law_deck_of" 1 (spP K F__law_deck_of) := by
  obtain ⟨fd, F⟩ := c.y.d.def_ 30
  exact ⟨_, fd, _, fn_okP F sc__law_deck_of (by decide) fun E => d__law_deck_of (a_fr_abs c X G) (a_fr_enumerate c X G) E, He.glo_ok X G (c.y.d.fact 72), F.kp, (F.bindsN fun _ _ _ _ _ _ us hl => match us, hl with | [x0], _ => rfl), rfl⟩
theorem a_c__law_below (c : SZ w K) (X : K.In h) (G : h.Ns mainGlobals mg) : CalK P w K mg base 2 "_law_below" 2 (spI K F__law_below) := by
  obtain ⟨fd, F⟩ := c.y.d.def_ 31
  exact ⟨_, fd, _, fn_okI F sc__law_below (by decide) fun E => d__law_below (a_fr_len c X G) (a_c__law_mixed c X G) (a_fr_int c X G) E, He.glo_ok X G (c.y.d.fact 63), F.kp, (F.bindsN fun _ _ _ _ _ _ us hl => match us, hl with | [x0, x1], _ => rfl), rfl⟩
theorem a_c__law_pick (c : SZ w K) (X : K.In h) (G : h.Ns mainGlobals mg) : CalK P w K mg base 3 "_law_pick" 2 (spI K F__law_pick) := by
  obtain ⟨fd, F⟩ := c.y.d.def_ 32
  exact ⟨_, fd, _, fn_okI F sc__law_pick (by decide) fun E => d__law_pick (a_c__law_below c X G) (a_fr_len c X G) E, He.glo_ok X G (c.y.d.fact 64), F.kp, (F.bindsN fun _ _ _ _ _ _ us hl => match us, hl with | [x0, x1], _ => rfl), rfl⟩
theorem a_c__law_some_kind (c : SZ w K) (X : K.In h) (G : h.Ns mainGlobals mg) : CalK P w K mg base 4 "_law_some_kind" 2 (spI K F__law_some_kind) := by
  obtain ⟨fd, F⟩ := c.y.d.def_ 33
  exact ⟨_, fd, _, fn_okI F sc__law_some_kind (by decide) fun E => d__law_some_kind (a_c__law_pick c X G) (a_fr_range c X G) (a_c__law_below c X G) (a_fr_len c X G) (a_fr_tuple c X G) E, He.glo_ok X G (c.y.d.fact 73), F.kp, (F.bindsN fun _ _ _ _ _ _ us hl => match us, hl with | [x0, x1], _ => rfl), rfl⟩
theorem a_c__law_is_bound (c : SZ w K) (X : K.In h) (G : h.Ns mainGlobals mg) : CalK P w K mg base 1 "_law_is_bound" 2 (spP K F__law_is_bound) := by
  obtain ⟨fd, F⟩ := c.y.d.def_ 34
  exact ⟨_, fd, _, fn_okP F sc__law_is_bound (by decide) fun E => d__law_is_bound (a_fr_isinstance c X G) (a_fr_int c X G) (a_fr_bool c X G) E, He.glo_ok X G (c.y.d.fact 74), F.kp, (F.bindsN fun _ _ _ _ _ _ us hl => match us, hl with | [x0, x1], _ => rfl), rfl⟩
theorem a_g_NoKind (c : SZ w K) (X : K.In h) (G : h.Ns mainGlobals mg) : mg "NoKind" = some (.ref (He.ga K "NoKind")) := He.glo_ok X G (c.y.d.fact 19)
theorem a_x_isk (c : SZ w K) (X : K.In h) (G : h.Ns mainGlobals mg) : IsKF K ["NoKind", "NoNumber", "Mismatch"] := isK_of (Bool.and_eq_true_iff.mp (Bool.and_eq_true_iff.mp c.y.b.1).2).1
theorem a_g_NoNumber (c : SZ w K) (X : K.In h) (G : h.Ns mainGlobals mg) : mg "NoNumber" = some (.ref (He.ga K "NoNumber")) := He.glo_ok X G (c.y.d.fact 37)
theorem a_g_Mismatch (c : SZ w K) (X : K.In h) (G : h.Ns mainGlobals mg) : mg "Mismatch" = some (.ref (He.ga K "Mismatch")) := He.glo_ok X G (c.y.d.fact 43)
theorem a_fr_ValueError (c : SZ w K) (X : K.In h) (G : h.Ns mainGlobals mg) : mg "ValueError" = none := He.free_ok X G (c.y.d.fact 65)
theorem a_w2 (c : SZ w K) (X : K.In h) (G : h.Ns mainGlobals mg) : SSs (gmOf P w K mg base N__law_word_of (defScope s__law_word_of) (jLam + 1) fun _ _ _ => False) st_w2 f_w2 := d_w2 (a_fr_isinstance c X G) (a_g_NoKind c X G) (a_x_isk c X G) (a_g_NoNumber c X G) (a_g_Mismatch c X G) (a_fr_ValueError c X G)
theorem a_fw (c : SZ w K) (X : K.In h) (G : h.Ns mainGlobals mg) : ∃ fd, FunD K "_law_word_of" "_law_word_of" (defArgs s__law_word_of) (defBody s__law_word_of) (defScope s__law_word_of) [] [] (He.ga K "_law_word_of") fd ∧ mg "_law_word_of" = some (.ref (He.ga K "_law_word_of")) ∧ L2.Binds K fd ["act"] [] := by
  obtain ⟨fd, F⟩ := c.y.d.def_ 35
  exact ⟨fd, F, He.glo_ok X G (c.y.d.fact 71), F.bindsN fun _ _ _ _ _ _ us hl => match us, hl with | [x0], _ => rfl⟩
theorem a_c__law_words (c : SZ w K) (X : K.In h) (G : h.Ns mainGlobals mg) (tb : LamX.TabB base mg (He.cT K ("_law_words", none)).1 (He.cT K ("_law_words", none)).2) : CalK P w K mg base 12 "_law_words" 5 (spPT K "_law_words" qLam F__law_words) := by
  obtain ⟨fd, F⟩ := c.y.d.def_ 36
  obtain ⟨fdW, FW, mW, bW⟩ := a_fw (mg := mg) (h := h) c X G
  exact ⟨_, fd, _, ok_words (a_c_distance c X G) (a_c_shortest c X G) (a_c_price_paper c X G) (a_c_closed_paper c X G) (a_c_shows_distance c X G) (a_c_shows_apart c X G) FW mW bW (a_w2 c X G) (He.glo_ok X G (c.y.d.fact 70)) (exm_ofB (Bool.and_eq_true_iff.mp (Bool.and_eq_true_iff.mp c.y.b.1).2).2) F rfl tb, He.glo_ok X G (c.y.d.fact 75), F.kp, (F.bindsN fun _ _ _ _ _ _ us hl => match us, hl with | [x0, x1, x2, x3, x4], _ => rfl), rfl⟩
theorem a_c_law (c : SZ w K) (X : K.In h) (G : h.Ns mainGlobals mg) : ∃ fd, FunD K "law" "law" (defArgs s_law) (defBody s_law) (defScope s_law) [] [] (He.ga K "law") fd ∧ ∀ base : Heap, LamX.TabB base mg (He.cT K ("_law_words", none)).1 (He.cT K ("_law_words", none)).2 → FnOk P w K mg base (L2.CX P w) 13 (He.ga K "law") fd ["script"] (spL K F_law) := by
  obtain ⟨fd, F⟩ := c.y.d.def_ 37
  exact ⟨fd, F, fun base tb => fn_okT F sc_law (by decide) (by decide) (by decide) fun E => d_law (a_c__law_deck_of c X G) (a_c__law_some_kind c X G) (a_c__law_pick c X G) (a_fr_list c X G) (a_m_Layout c X G) (a_fr_range c X G) (a_c__law_below c X G) (a_c__law_is_bound c X G) (a_p_total c X G) (a_cls_Layout c X G) (a_noat_degree c X G) (a_c__law_words c X G tb) E⟩
end
end FL
set_option Elab.async false
set_option linter.all false
set_option maxRecDepth 100000
set_option maxHeartbeats 0
namespace FL
open PySem PySem.Spec PyProof.Rows L2
theorem says65 (w : World) : SaysZ hfa hfn hts hget hsta hex_ w (head65.heap_39 w.params) := by
  show (((((hfa.all fun f => He.Fa.ok (head65.heap_39 w.params) f) && hfn.all fun f => He.DefD.ok (head65.heap_39 w.params) f, hfn.map fun d => He.fnW (head65.heap_39 w.params) d.at_), hts.map fun t => He.dicW (head65.heap_39 w.params) (t.1 (head65.heap_39 w.params))), hex_ (head65.heap_39 w.params) && hget.all (propB (head65.heap_39 w.params)), hget.map fun d => fnA (head65.heap_39 w.params) (getA (head65.heap_39 w.params) d.c d.m)), hsta.all (staB (head65.heap_39 w.params)), hsta.map fun d => fnA (head65.heap_39 w.params) (staA (head65.heap_39 w.params) d.c d.m)) = valZ hfn hts hget hsta w
  rw [f1 w, f2 w, f3 w, f4 w, f5 w, f6 w, f7 w]
  rfl
theorem law_sp {K : PySem.W.Frag} {H : Hp} {a : Addr} {ns : List Int} (hP : H (tabP K) = some (.tbl #[])) (hS : SqL K H a (ns.map V.int)) (pure : F_law [.xls (ns.map .int)] = some (.ret (.va (.bl true)))) : spL K F_law [.ref a] H (fun v _ => v = .bl true) fun _ _ _ => False := by
  refine ⟨fun b => if b = tabP K then none else H b, [.xls (ns.map .int)], fun b o e => ?_, .one (.xls ?_ (Reps.ints ns)), ?_, if_pos rfl, pure, fun _ => rfl⟩
  · dsimp only at e
    split at e
    · cases e
    · exact e
  · rcases hS with (h | ⟨o, h⟩) | h
    · refine .inl (.inl ?_)
      show (if a = tabP K then none else H a) = _
      rw [if_neg]
      · exact h
      · rintro rfl; rw [hP] at h; cases h
    · refine .inl (.inr ⟨o, ?_⟩)
      show (if a = tabP K then none else H a) = _
      rw [if_neg]
      · exact h
      · rintro rfl; rw [hP] at h; cases h
    · exact .inr h
  · intro p hp
    obtain rfl : p = (tabP K, qLam) := by simpa using hp
    exact LamX.TabS.nil hP
noncomputable abbrev K65 (w : World) : PySem.W.Frag := head65.heap_39 w.params
theorem tab65 (w : World) : tabP (K65 w) = 527 := f8 w
theorem hd65 (w : World) : PySem.W.codeHdIn (K65 w) (He.cT (K65 w) ("_law_words", none)).1 (tabP (K65 w)) = true := (tab65 w).symm ▸ f9 w
theorem lk65 (w : World) : (K65 w).lookup (tabP (K65 w)) = none := (tab65 w).symm ▸ f10 w
theorem tabOne {base : Heap} {mg : Str → Option Value} {a b : Addr} (tb : ∀ p ∈ [(a, b)], LamX.TabB base mg p.1 p.2) : LamX.TabB base mg a b := tb (a, b) (List.mem_singleton_self _)
theorem law_gen (pure65_ : ∀ ns : List Int, ns.length ≤ 63 → F_law [.xls (ns.map .int)] = some (.ret (.va (.bl true)))) {w : World} {K : PySem.W.Frag} {mg : Str → Option Value} {fa : Addr} {h : Heap} (c : SZ w K) (X : K.In h) (em : h.get? (tabP K) = some { cls := .none, data := .fields #[] }) (lk : K.lookup (tabP K) = none)
    (hd : PySem.W.codeHdIn K (He.cT K ("_law_words", none)).1 (tabP K) = true) (G : h.Ns mainGlobals mg) (hm : mg "law" = some (.ref fa)) :
    LamX.LawAtS PySem.Challenge.rw_layoutswap_k65_fewest_refused w K (L2.CX PySem.Challenge.rw_layoutswap_k65_fewest_refused.prog w) 13 63 "script" mg fa h := by
  obtain ⟨fd, Fd, ok⟩ := a_c_law (P := PySem.Challenge.rw_layoutswap_k65_fewest_refused.prog) c X G
  have e : fa = He.ga K "law" := by
    have := He.glo_ok X G (c.y.d.fact (f := .glo "law") 76)
    rw [hm] at this
    injection this with this
    injection this
  subst e
  refine ⟨fd, [((He.cT K ("_law_words", none)).1, tabP K)], spL K F_law, fun p hp => ?_, fun p hp => ?_, fun p hp => ?_, fun s u => Fd.bindsA (ps := ["script"]) (fun _ _ _ _ _ _ us hl => match us, hl with | [_], _ => rfl) s [u] rfl, fun H a ns hl _ hT hS => ?_, fun base _ _ tb => ok base (tabOne tb)⟩
  · obtain rfl := List.mem_singleton.mp hp
    exact em
  · obtain rfl := List.mem_singleton.mp hp
    exact lk
  · obtain rfl := List.mem_singleton.mp hp
    exact PySem.W.codeHd_of_K X hd
  · exact law_sp (hT ((He.cT K ("_law_words", none)).1, tabP K) (List.mem_singleton_self _)) hS (pure65_ ns hl)
theorem em65 (w : World) {h : Heap} (em : h.get? 527 = some (PySem.W.tabObj #[])) : h.get? (tabP (K65 w)) = some { cls := .none, data := .fields #[] } := (tab65 w).symm ▸ em
theorem end65 (pure65_ : ∀ ns : List Int, ns.length ≤ 63 → F_law [.xls (ns.map .int)] = some (.ret (.va (.bl true)))) : PySem.Challenge.rw_layoutswap_k65_fewest_refused.Holds := by
  refine head65 (LamX.walk_ofTs (l := PySem.Challenge.rw_layoutswap_k65_fewest_refused) (n := 63) (k := 13) (x := "script") (K := head65.heap_39) (CX := fun w => L2.CX PySem.Challenge.rw_layoutswap_k65_fewest_refused.prog w) rfl (by decide) rfl ?_ (fun w h Y => Y.1) (fun w mg fa h Y X G hm => ?_) ?_)
  · constructor <;> decide
  · exact law_gen pure65_ (says65 w) X (em65 w (Y.2 527 (List.mem_singleton_self _))) (lk65 w) (hd65 w) G hm
  · intro w H s e s' h
    obtain ⟨_, _, _, _, _, _, _, _, _, _, _, _, z⟩ := h
    exact z.elim
end FL
set_option Elab.async false
set_option maxRecDepth 100000
set_option maxHeartbeats 0
theorem PySem.Challenge.cw_layoutswap_k65_fewest_refused_holds : PySem.Challenge.rw_layoutswap_k65_fewest_refused.Holds := by
  exact FL.end65 FL.pure65
