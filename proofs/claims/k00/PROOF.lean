import PyProof.Rows.All
import Wide.All
import OpenK.AllK
import Wide.FinOn
import HandS.ForMost
import HandS.Exc
import HandS.WordsExc
import HandS.CallSlots
import HandS.TryOnly
import HandS.Defaults
import HandS.HeadHook1
import HandS.HeadHook2
import HandS.Wide
import HandS.Ends
import HandS.ExcOwn
import HandS.TupAny
import HandS.TupMul
import HandS.IsInst
import PyProof.Rows.RuleB_pow
import HandS.Zip
import KE.KExcSuper
import HandS.ExcInit
import HandS.ExcIs
import HandS.ExcField
import HandS.RaiseMore
import PyProof.ReprRoads
import PyProof.CallFns
import HandS.SetFor
import KE.DataMinMax
import KE.SortData
import HandS.MakeKwOnly
import HandS.Head0
import HandS.Head1
import HandS.Head2
import HandS.HeadEnd
import HandS.HeadHook3
import HandS.HeadHook4
import PySem.Challenge.RW_ownedonce_k00_rows_and_vectors
set_option Elab.async false
set_option linter.all false
set_option maxRecDepth 100000
set_option maxHeartbeats 8000000
namespace Vi
open PySem PySem.Spec L2

inductive D where
  | non | bl (b : Bool) | int (i : Int) | str (x : Str)
  | lst (xs : List D) | fro (xs : List D) | tup (xs : List D) | dic (ks : List Key) (vs : List D) | ins (c : Str) (ns : List Str) (vs : List D)

mutual
inductive Rp (K : PySem.W.Frag) (G : Hp) : V → D → Prop
  | non : Rp K G .non .non
  | bl (b : Bool) : Rp K G (.bl b) (.bl b)
  | int (i : Int) : Rp K G (.int i) (.int i)
  | str (x : Str) : Rp K G (.str x) (.str x)
  | lst {a : Addr} {xs : List V} {ds : List D} : G a = some (.lst xs) → RpA K G xs ds → Rp K G (.ref a) (.lst ds)
  | fro {a : Addr} {xs : List V} {ds : List D} : SqL K G a xs → RpA K G xs ds → Rp K G (.ref a) (.fro ds)
  | tup {a : Addr} {xs : List V} {ds : List D} : SqT K G a xs → RpA K G xs ds → Rp K G (.ref a) (.tup ds)
  | dic {a : Addr} {kvs : List (Key × V)} {ds : List D} : G a = some (.dK kvs) → RpA K G (kvs.map (·.2)) ds → Rp K G (.ref a) (.dic (kvs.map (·.1)) ds)
  | ins {a dx : Addr} {c : Str} {fs : List (Str × V)} {ds : List D} : G a = some (.ins (He.ga K c) dx fs) → RpA K G (fs.map (·.2)) ds → Rp K G (.ref a) (.ins c (fs.map (·.1)) ds)
inductive RpA (K : PySem.W.Frag) (G : Hp) : List V → List D → Prop
  | nil : RpA K G [] []
  | cons {v : V} {vs : List V} {d : D} {ds : List D} : Rp K G v d → RpA K G vs ds → RpA K G (v :: vs) (d :: ds)
end

theorem rd_mono {H H' : Hp} {a : Addr} {u : HO} (e : Same H H') (h : Rd H a u) : Rd H' a u := h.elim (fun z => .inl (e _ _ z)) fun ⟨o, z⟩ => .inr ⟨o, e _ _ z⟩
theorem sqT_mono {K : PySem.W.Frag} {H H' : Hp} {a : Addr} {xs : List V} (e : Same H H') (h : SqT K H a xs) : SqT K H' a xs := by
  rcases h with (h | ⟨o, h⟩) | h
  · exact .inl (.inl (e _ _ h))
  · exact .inl (.inr ⟨o, e _ _ h⟩)
  · exact .inr h

section
variable {K : PySem.W.Frag} {G G' H : Hp}
mutual
theorem Rp.mono (s : Same G G') : ∀ (d : D) (v : V), Rp K G v d → Rp K G' v d
  | .non, _, h => by cases h; exact .non
  | .bl b, _, h => by cases h; exact .bl b
  | .int i, _, h => by cases h; exact .int i
  | .str x, _, h => by cases h; exact .str x
  | .lst ds, _, h => by
    cases h with
    | lst a b => exact .lst (s _ _ a) (RpA.mono s ds _ b)
  | .fro ds, _, h => by
    cases h with
    | fro a b => exact .fro (s.seq a) (RpA.mono s ds _ b)
  | .tup ds, _, h => by
    cases h with
    | tup a b => exact .tup (sqT_mono s a) (RpA.mono s ds _ b)
  | .dic ks ds, _, h => by
    cases h with
    | dic a b => exact .dic (s _ _ a) (RpA.mono s ds _ b)
  | .ins c ns ds, _, h => by
    cases h with
    | ins a b => exact .ins (s _ _ a) (RpA.mono s ds _ b)
theorem RpA.mono (s : Same G G') : ∀ (ds : List D) (vs : List V), RpA K G vs ds → RpA K G' vs ds
  | [], _, h => by cases h; exact .nil
  | d :: ds, _, h => by
    cases h with
    | cons a b => exact .cons (Rp.mono s d _ a) (RpA.mono s ds _ b)
end
theorem Rp.up {v : V} {d : D} (h : Rp K G v d) (s : Same G G') : Rp K G' v d := Rp.mono s d v h
theorem RpA.up {v : List V} {d : List D} (h : RpA K G v d) (s : Same G G') : RpA K G' v d := RpA.mono s d v h
theorem RpA.len : ∀ {vs : List V} {ds : List D}, RpA K G vs ds → vs.length = ds.length
  | _, _, .nil => rfl
  | _, _, .cons _ b => congrArg (· + 1) b.len
theorem RpA.get : ∀ {vs : List V} {ds : List D} {i : Nat} {d : D}, RpA K G vs ds → ds[i]? = some d → ∃ v, vs[i]? = some v ∧ Rp K G v d
  | _, _, _, _, .nil, e => by simp at e
  | _, _, 0, _, .cons r _, e => by simp at e; subst e; exact ⟨_, rfl, r⟩
  | _, _, i + 1, d, .cons _ t, e => by
    obtain ⟨u, h1, h2⟩ := RpA.get (i := i) (d := d) t (by simpa using e)
    exact ⟨u, by simpa using h1, h2⟩
theorem RpA.getv : ∀ {vs : List V} {ds : List D} {i : Nat} {v : V}, RpA K G vs ds → vs[i]? = some v → ∃ d, ds[i]? = some d ∧ Rp K G v d
  | _, _, _, _, .nil, e => by simp at e
  | _, _, 0, _, .cons r _, e => by simp at e; subst e; exact ⟨_, rfl, r⟩
  | _, _, i + 1, v, .cons _ t, e => by
    obtain ⟨u, h1, h2⟩ := RpA.getv (i := i) (v := v) t (by simpa using e)
    exact ⟨u, by simpa using h1, h2⟩
theorem RpA.append : ∀ {vs ws : List V} {ds es : List D}, RpA K G vs ds → RpA K G ws es → RpA K G (vs ++ ws) (ds ++ es)
  | _, _, _, _, .nil, h => h
  | _, _, _, _, .cons a b, h => .cons a (b.append h)
theorem RpA.take : ∀ (n : Nat) {vs : List V} {ds : List D}, RpA K G vs ds → RpA K G (vs.take n) (ds.take n)
  | 0, _, _, _ => .nil
  | _ + 1, _, _, .nil => .nil
  | n + 1, _, _, .cons a b => .cons a (RpA.take n b)
theorem RpA.drop : ∀ (n : Nat) {vs : List V} {ds : List D}, RpA K G vs ds → RpA K G (vs.drop n) (ds.drop n)
  | 0, _, _, h => h
  | _ + 1, _, _, .nil => .nil
  | n + 1, _, _, .cons _ b => RpA.drop n b
theorem RpA.set {v : V} {d : D} (h : Rp K G v d) : ∀ (i : Nat) {vs : List V} {ds : List D}, RpA K G vs ds → RpA K G (vs.set i v) (ds.set i d)
  | _, _, _, .nil => .nil
  | 0, _, _, .cons _ b => .cons h b
  | i + 1, _, _, .cons a b => .cons a (RpA.set h i b)
theorem RpA.one {v : V} {d : D} (h : Rp K G v d) : RpA K G [v] [d] := .cons h .nil
theorem RpA.reverse : ∀ {vs : List V} {ds : List D}, RpA K G vs ds → RpA K G vs.reverse ds.reverse
  | _, _, .nil => .nil
  | _, _, .cons a b => by
    rw [List.reverse_cons, List.reverse_cons]
    exact b.reverse.append (.one a)
theorem RpA.rep {v : V} {d : D} (h : Rp K G v d) : ∀ n : Nat, RpA K G (List.replicate n v) (List.replicate n d)
  | 0 => .nil
  | n + 1 => .cons h (RpA.rep h n)
theorem RpA.reps {vs : List V} {ds : List D} (h : RpA K G vs ds) : ∀ n : Nat, RpA K G (List.replicate n vs).flatten (List.replicate n ds).flatten
  | 0 => .nil
  | n + 1 => by
    rw [List.replicate_succ, List.replicate_succ, List.flatten_cons, List.flatten_cons]
    exact h.append (RpA.reps h n)
theorem RpA.ints : ∀ (ns : List Int), RpA K G (ns.map V.int) (ns.map D.int)
  | [] => .nil
  | n :: ns => .cons (.int n) (RpA.ints ns)
theorem RpA.of_ints : ∀ {ns : List Int} {vs : List V}, RpA K G vs (ns.map D.int) → vs = ns.map V.int
  | [], _, h => by cases h; rfl
  | n :: ns, _, h => by
    cases h with
    | cons a b =>
      cases a
      rw [RpA.of_ints b]
      rfl
theorem RpA.of_bls : ∀ {ns : List Bool} {vs : List V}, RpA K G vs (ns.map D.bl) → vs = ns.map V.bl
  | [], _, h => by cases h; rfl
  | n :: ns, _, h => by
    cases h with
    | cons a b =>
      cases a
      rw [RpA.of_bls b]
      rfl
theorem RpA.dropLast : ∀ {vs : List V} {ds : List D}, RpA K G vs ds → RpA K G vs.dropLast ds.dropLast
  | _, _, .nil => .nil
  | _, _, .cons a .nil => .nil
  | _, _, .cons a (.cons b c) => .cons a (RpA.dropLast (.cons b c))
end

inductive MO where
  | lst (ds : List D) | dic (ks : List Key) (ds : List D) | ins (c : Str) (ns : List Str) (ds : List D)
def MO.toD : MO → D
  | .lst ds => .lst ds
  | .dic ks ds => .dic ks ds
  | .ins c ns ds => .ins c ns ds
def MOR (K : PySem.W.Frag) (G : Hp) : MO → HO → Prop
  | .lst ds, o => ∃ vs, o = .lst vs ∧ RpA K G vs ds
  | .dic ks ds, o => ∃ kvs : List (Key × V), o = .dK kvs ∧ kvs.map (·.1) = ks ∧ RpA K G (kvs.map (·.2)) ds
  | .ins c ns ds, o => ∃ (dx : Addr) (fs : List (Str × V)), o = .ins (He.ga K c) dx fs ∧ fs.map (·.1) = ns ∧ RpA K G (fs.map (·.2)) ds
theorem MOR.up {K : PySem.W.Frag} {G G' : Hp} {m : MO} {o : HO} (h : MOR K G m o) (s : Same G G') : MOR K G' m o := by
  cases m with
  | lst ds => obtain ⟨vs, e, r⟩ := h; exact ⟨vs, e, r.up s⟩
  | dic ks ds => obtain ⟨vs, e, f, r⟩ := h; exact ⟨vs, e, f, r.up s⟩
  | ins c ns ds => obtain ⟨dx, vs, e, f, r⟩ := h; exact ⟨dx, vs, e, f, r.up s⟩
theorem MOR.frz {K : PySem.W.Frag} {G : Hp} {m : MO} {o : HO} {a : Addr} (h : MOR K G m o) (e : G a = some o) : Rp K G (.ref a) m.toD := by
  cases m with
  | lst ds => obtain ⟨vs, rfl, r⟩ := h; exact .lst e r
  | dic ks ds => obtain ⟨vs, rfl, rfl, r⟩ := h; exact .dic e r
  | ins c ns ds => obtain ⟨dx, vs, rfl, rfl, r⟩ := h; exact .ins e r

inductive Sl where
  | emp | dat (d : D) | own (m : MO) | mu (m : MO) | exc (c : Str) (ns : List Str) (ds : List D)
abbrev En := List Sl
structure Mu where
  m : Addr
  x : Addr
  cls : Value
  d : Option Addr
def SlR (K : PySem.W.Frag) (μ : Mu) (H G : Hp) : Sl → Option V → Prop
  | .emp, _ => True
  | .dat d, o => ∃ v, o = some v ∧ Rp K G v d
  | .own m, o => ∃ a u, o = some (.ref a) ∧ H a = some u ∧ G a = none ∧ MOR K G m u
  | .mu m, o => ∃ u, o = some (.ref μ.m) ∧ H μ.m = some u ∧ G μ.m = none ∧ MOR K G m u
  | .exc c ns ds, o => o = some (.ref μ.x) ∧ μ.cls = .ref (He.ga K c) ∧ ∃ (dd : Addr) (fs : List (Str × V)), μ.d = some dd ∧ G dd = some (.xd fs) ∧ fs.map (·.1) = ns ∧ RpA K G (fs.map (·.2)) ds
def isOw : Option Sl → Prop
  | some (.own _) => True
  | some (.mu _) => True
  | _ => False
def ownAt (σ : St) (ρ : En) (i : Nat) (a : Addr) : Prop := isOw ρ[i]? ∧ σ[i]? = some (some (.ref a))
structure Rl (K : PySem.W.Frag) (μ : Mu) (σ : St) (H : Hp) (ρ : En) (G : Hp) : Prop where
  len : σ.length = ρ.length
  slot : ∀ (i : Nat) (s : Sl), ρ[i]? = some s → ∃ o, σ[i]? = some o ∧ SlR K μ H G s o
  vis : Same G H
  apart : ∀ i j a, ownAt σ ρ i a → ownAt σ ρ j a → i = j
structure Step (σ : St) (ρ : En) (H G : Hp) (σ' : St) (ρ' : En) (H' G' : Hp) : Prop where
  g : Same G G'
  keep : ∀ b o, H b = some o → (∀ i, ¬ ownAt σ ρ i b) → H' b = some o
  dom : ∀ b, H' b = none → H b = none
  ow : ∀ i b, ownAt σ' ρ' i b → H b = none ∨ ∃ j, ownAt σ ρ j b
  vis : ∀ b o, G' b = some o → G b = some o ∨ H b = none ∨ ∃ j, ownAt σ ρ j b
structure Alloc (H G H' G' : Hp) : Prop where
  h : Same H H'
  g : Same G G'
  v : Same G' H'
  n : ∀ b o, G' b = some o → G b = some o ∨ H b = none

section
variable {K : PySem.W.Frag} {μ : Mu} {σ σ1 σ2 : St} {ρ ρ1 ρ2 : En} {H H1 H2 H' G G1 G2 G' : Hp}
theorem Step.refl (σ : St) (ρ : En) (H G : Hp) : Step σ ρ H G σ ρ H G :=
  ⟨.refl _, fun _ _ h _ => h, fun _ h => h, fun i _ h => .inr ⟨i, h⟩, fun _ _ h => .inl h⟩
theorem Step.trans (a : Step σ ρ H G σ1 ρ1 H1 G1) (b : Step σ1 ρ1 H1 G1 σ2 ρ2 H2 G2) : Step σ ρ H G σ2 ρ2 H2 G2 where
  g := a.g.trans b.g
  keep := fun c o h n => b.keep c o (a.keep c o h n) fun i q => by
    rcases a.ow i c q with z | ⟨j, z⟩
    · rw [h] at z; cases z
    · exact n j z
  dom := fun c h => a.dom c (b.dom c h)
  ow := fun i c h => by
    rcases b.ow i c h with z | ⟨j, z⟩
    · exact .inl (a.dom c z)
    · exact a.ow j c z
  vis := fun c o h => by
    rcases b.vis c o h with z | z | ⟨j, z⟩
    · exact a.vis c o z
    · exact .inr (.inl (a.dom c z))
    · exact .inr (a.ow j c z)
theorem Alloc.refl (v : Same G H) : Alloc H G H G := ⟨.refl _, .refl _, v, fun _ _ h => .inl h⟩
theorem Alloc.trans (a : Alloc H G H1 G1) (b : Alloc H1 G1 H2 G2) : Alloc H G H2 G2 :=
  ⟨a.h.trans b.h, a.g.trans b.g, b.v, fun c o h => (b.n c o h).elim (a.n c o) fun z => .inr (a.h.free z)⟩
theorem SlR.alloc {s : Sl} {o : Option V} (hs : SlR K μ H G s o) (a : Alloc H G H' G') : SlR K μ H' G' s o := by
  have nn : ∀ {b : Addr} {u : HO}, H b = some u → G b = none → G' b = none := fun {b u} e n => by
    cases q : G' b with
    | none => rfl
    | some z =>
      rcases a.n b z q with y | y
      · rw [n] at y; cases y
      · rw [e] at y; cases y
  cases s with
  | emp => trivial
  | dat d => obtain ⟨v, e, r⟩ := hs; exact ⟨v, e, r.up a.g⟩
  | own m => obtain ⟨b, u, e, h, n, r⟩ := hs; exact ⟨b, u, e, a.h _ _ h, nn h n, r.up a.g⟩
  | mu m => obtain ⟨u, e, h, n, r⟩ := hs; exact ⟨u, e, a.h _ _ h, nn h n, r.up a.g⟩
  | exc c ns ds => obtain ⟨e, h, dd, fs, e1, e2, e3, r⟩ := hs; exact ⟨e, h, dd, fs, e1, a.g _ _ e2, e3, r.up a.g⟩
theorem Rl.alloc (R : Rl K μ σ H ρ G) (a : Alloc H G H' G') : Rl K μ σ H' ρ G' :=
  ⟨R.len, fun i s e => let ⟨o, e1, hs⟩ := R.slot i s e; ⟨o, e1, hs.alloc a⟩, a.v, R.apart⟩
theorem Alloc.step (a : Alloc H G H' G') : Step σ ρ H G σ ρ H' G' :=
  ⟨a.g, fun b o h _ => a.h b o h, fun b h => a.h.free h, fun i b h => .inr ⟨i, h⟩, fun b o h => (a.n b o h).elim .inl fun z => .inr (.inl z)⟩
/-- a new object, at once visible -/
theorem Alloc.new {p : Addr} {u : HO} (v : Same G H) (n : H p = none) : Alloc H G (upd H p u) (upd G p u) := by
  have ng : G p = none := v.free n
  refine ⟨fun b o h => ?_, fun b o h => ?_, fun b o h => ?_, fun b o h => ?_⟩
  · rw [upd_ne (ne_of_none h n)]; exact h
  · rw [upd_ne (ne_of_none h ng)]; exact h
  · by_cases e : b = p
    · subst e; rw [upd_same] at h ⊢; exact h
    · rw [upd_ne e] at h ⊢; exact v b o h
  · by_cases e : b = p
    · subst e; exact .inr n
    · rw [upd_ne e] at h; exact .inl h
/-- a new object, not yet visible -/
theorem Alloc.hid {p : Addr} {u : HO} (v : Same G H) (n : H p = none) : Alloc H G (upd H p u) G :=
  ⟨fun b o h => by rw [upd_ne (ne_of_none h n)]; exact h, .refl _, fun b o h => by rw [upd_ne (ne_of_none (v b o h) n)]; exact v b o h, fun _ _ h => .inl h⟩
theorem Rl.at (R : Rl K μ σ H ρ G) {i : Nat} {s : Sl} (e : ρ[i]? = some s) : ∃ o, σ[i]? = some o ∧ SlR K μ H G s o := R.slot i s e
end

def Rb (K : PySem.W.Frag) (H G : Hp) (v : V) (d : D) : Prop := Rp K G v d ∨ ∃ (a : Addr) (u : HO) (m : MO), v = .ref a ∧ H a = some u ∧ MOR K G m u ∧ d = m.toD
def rdS (ρ : En) (i : Nat) : Option D := match ρ[i]? with
  | some (.dat d) => some d
  | some (.own m) => some m.toD
  | some (.mu m) => some m.toD
  | _ => none
section
variable {K : PySem.W.Frag} {μ : Mu} {σ : St} {ρ : En} {H G : Hp}
theorem Rl.read (R : Rl K μ σ H ρ G) {i : Nat} {d : D} (e : rdS ρ i = some d) : ∃ v, σ[i]? = some (some v) ∧ Rb K H G v d := by
  unfold rdS at e
  split at e
  · rename_i d' e1
    cases e
    obtain ⟨o, e2, v, e3, r⟩ := R.slot i _ e1
    exact ⟨v, by rw [e2, e3], .inl r⟩
  · rename_i m e1
    cases e
    obtain ⟨o, e2, a, u, e3, h, n, r⟩ := R.slot i _ e1
    exact ⟨_, by rw [e2, e3], .inr ⟨a, u, m, rfl, h, r, rfl⟩⟩
  · rename_i m e1
    cases e
    obtain ⟨o, e2, u, e3, h, n, r⟩ := R.slot i _ e1
    exact ⟨_, by rw [e2, e3], .inr ⟨_, u, m, rfl, h, r, rfl⟩⟩
  · cases e
/-- a borrowed list, tuple -/
theorem Rb.lst {v : V} {ds : List D} (h : Rb K H G v (.lst ds)) (s : Same G H) : ∃ a vs, v = .ref a ∧ H a = some (.lst vs) ∧ RpA K G vs ds := by
  rcases h with h | ⟨a, u, m, e, h, r, q⟩
  · cases h with
    | lst a b => exact ⟨_, _, rfl, s _ _ a, b⟩
  · cases m with
    | lst es =>
      obtain ⟨vs, rfl, r⟩ := r
      cases q
      exact ⟨a, vs, e, h, r⟩
    | dic _ _ => cases q
    | ins _ _ _ => cases q
theorem Rb.fro {v : V} {ds : List D} (h : Rb K H G v (.fro ds)) (s : Same G H) : ∃ a vs, v = .ref a ∧ SqL K H a vs ∧ RpA K G vs ds := by
  rcases h with h | ⟨a, u, m, e, h, r, q⟩
  · cases h with
    | fro a b => exact ⟨_, _, rfl, s.seq a, b⟩
  · cases m <;> cases q
theorem Rb.tup {v : V} {ds : List D} (h : Rb K H G v (.tup ds)) (s : Same G H) : ∃ a vs, v = .ref a ∧ SqT K H a vs ∧ RpA K G vs ds := by
  rcases h with h | ⟨a, u, m, e, h, r, q⟩
  · cases h with
    | tup a b => exact ⟨_, _, rfl, sqT_mono s a, b⟩
  · cases m <;> cases q
theorem Rb.int {v : V} {i : Int} (h : Rb K H G v (.int i)) : v = .int i := by
  rcases h with h | ⟨a, u, m, e, h, r, q⟩
  · cases h; rfl
  · cases m <;> cases q
theorem Rb.bl {v : V} {i : Bool} (h : Rb K H G v (.bl i)) : v = .bl i := by
  rcases h with h | ⟨a, u, m, e, h, r, q⟩
  · cases h; rfl
  · cases m <;> cases q
theorem Rb.str {v : V} {i : Str} (h : Rb K H G v (.str i)) : v = .str i := by
  rcases h with h | ⟨a, u, m, e, h, r, q⟩
  · cases h; rfl
  · cases m <;> cases q
theorem Rb.non {v : V} (h : Rb K H G v .non) : v = .non := by
  rcases h with h | ⟨a, u, m, e, h, r, q⟩
  · cases h; rfl
  · cases m <;> cases q
theorem Rb.dic {v : V} {ks : List Key} {ds : List D} (h : Rb K H G v (.dic ks ds)) (s : Same G H) : ∃ (a : Addr) (kvs : List (Key × V)), v = .ref a ∧ H a = some (.dK kvs) ∧ kvs.map (·.1) = ks ∧ RpA K G (kvs.map (·.2)) ds := by
  rcases h with h | ⟨a, u, m, e, h, r, q⟩
  · cases h with
    | dic a b => exact ⟨_, _, rfl, s _ _ a, rfl, b⟩
  · cases m with
    | lst es => cases q
    | dic _ _ =>
      obtain ⟨vs, rfl, f, r⟩ := r
      cases q
      exact ⟨a, vs, e, h, f, r⟩
    | ins _ _ _ => cases q
theorem Rb.ins {v : V} {c : Str} {ns : List Str} {ds : List D} (h : Rb K H G v (.ins c ns ds)) (s : Same G H) : ∃ (a dx : Addr) (fs : List (Str × V)), v = .ref a ∧ H a = some (.ins (He.ga K c) dx fs) ∧ fs.map (·.1) = ns ∧ RpA K G (fs.map (·.2)) ds := by
  rcases h with h | ⟨a, u, m, e, h, r, q⟩
  · cases h with
    | ins a b => exact ⟨_, _, _, rfl, s _ _ a, rfl, b⟩
  · cases m with
    | lst es => cases q
    | dic _ _ => cases q
    | ins _ _ _ =>
      obtain ⟨dx, vs, rfl, f, r⟩ := r
      cases q
      exact ⟨a, dx, vs, e, h, f, r⟩
end
end Vi

namespace Vi
open PySem PySem.Spec L2

inductive Rs (α : Type) where
  | ok (a : α) (ρ : En) | ex (c : Str) (ns : List Str) (ds : List D) (ρ : En) | no
abbrev M (α : Type) := En → Rs α
def bind {α β : Type} (f : M α) (k : α → M β) : M β := fun ρ => match f ρ with
  | .ok a ρ' => k a ρ'
  | .ex c ns ds ρ' => .ex c ns ds ρ'
  | .no => .no
def ret {α : Type} (a : α) : M α := fun ρ => .ok a ρ
def opt {α : Type} (o : Option α) : M α := fun ρ => match o with
  | some a => .ok a ρ
  | none => .no

abbrev WX := Value → Option Addr → St → Hp → Prop
section
variable (K : PySem.W.Frag) (μ : Mu) (W : WX)
def exOk (σ : St) (ρ : En) (H G : Hp) (c : Str) (ns : List Str) (ds : List D) (ρ' : En) : Prop :=
  ∀ (σ' : St) (dd : Addr) (fs : List (Str × V)) (H' G' : Hp), Rl K μ σ' H' ρ' G' → Step σ ρ H G σ' ρ' H' G' → G' dd = some (.xd fs) → fs.map (·.1) = ns → RpA K G' (fs.map (·.2)) ds → W (.ref (He.ga K c)) (some dd) σ' H'
def Post {α : Type} (σ : St) (ρ : En) (H G : Hp) (r : Rs α) (P : α → En → Hp → Hp → Prop) : Prop := match r with
  | .ok a ρ' => ∀ H' G', Rl K μ σ H' ρ' G' → Step σ ρ H G σ ρ' H' G' → P a ρ' H' G'
  | .ex c ns ds ρ' => exOk K μ W σ ρ H G c ns ds ρ'
  | .no => False
/-- a value is handed on -/
def lE (f : M D) : TE := fun σ H Q => ∃ ρ G, Rl K μ σ H ρ G ∧ Post K μ W σ ρ H G (f ρ) fun d _ H' G' => ∀ v, Rp K G' v d → Q v H'
def lT (f : M Bool) : TT := fun σ H Q => ∃ ρ G, Rl K μ σ H ρ G ∧ Post K μ W σ ρ H G (f ρ) fun b _ H' _ => Q b H'
def lA (f : M (List D)) : TA := fun σ H Q => ∃ ρ G, Rl K μ σ H ρ G ∧ Post K μ W σ ρ H G (f ρ) fun ds _ H' G' => ∀ vs, RpA K G' vs ds → Q vs H'
/-- a new thing of one's own is handed on -/
def lO (f : M MO) : TE := fun σ H Q => ∃ ρ G, Rl K μ σ H ρ G ∧ Post K μ W σ ρ H G (f ρ) fun m ρ' H' G' => ∀ p u, H' p = some u → G' p = none → (∀ i, ¬ ownAt σ ρ' i p) → H p = none → MOR K G' m u → Q (.ref p) H'
end

section
variable {K : PySem.W.Frag} {μ : Mu} {W : WX} {σ σ1 : St} {ρ ρ1 : En} {H H1 G G1 : Hp} {α β : Type}
theorem exOk.shift {c : Str} {ns : List Str} {ds : List D} {ρ' : En} (s : Step σ ρ H G σ1 ρ1 H1 G1) (h : exOk K μ W σ ρ H G c ns ds ρ') : exOk K μ W σ1 ρ1 H1 G1 c ns ds ρ' :=
  fun σ' dd fs H' G' R st a b e => h σ' dd fs H' G' R (s.trans st) a b e
theorem Post.shift {r : Rs α} {P : α → En → Hp → Hp → Prop} (s : Step σ ρ H G σ ρ1 H1 G1) (h : Post K μ W σ ρ H G r P) : Post K μ W σ ρ1 H1 G1 r P := by
  cases r with
  | ok a ρ' => exact fun H' G' R st => h H' G' R (s.trans st)
  | ex c ns ds ρ' => exact exOk.shift s h
  | no => exact h
theorem Post.imp {r : Rs α} {P P' : α → En → Hp → Hp → Prop} (h : Post K μ W σ ρ H G r P) (i : ∀ a ρ' H' G', Rl K μ σ H' ρ' G' → Step σ ρ H G σ ρ' H' G' → P a ρ' H' G' → P' a ρ' H' G') : Post K μ W σ ρ H G r P' := by
  cases r with
  | ok a ρ' => exact fun H' G' R st => i _ _ _ _ R st (h H' G' R st)
  | ex c ns ds ρ' => exact h
  | no => exact h
theorem Post.bind {f : M α} {k : α → M β} {P : β → En → Hp → Hp → Prop} (h : Post K μ W σ ρ H G (bind f k ρ) P) : Post K μ W σ ρ H G (f ρ) fun a ρ' H' G' => Post K μ W σ ρ' H' G' (k a ρ') P := by
  unfold Vi.bind at h
  cases e : f ρ with
  | ok a ρ' =>
    rw [e] at h
    exact fun H' G' R st => Post.shift st h
  | ex c ns ds ρ' => rw [e] at h; exact h
  | no => rw [e] at h; exact h
/-- the end: nothing more is done -/
theorem Post.ret {a : α} {P : α → En → Hp → Hp → Prop} (R : Rl K μ σ H ρ G) (h : Post K μ W σ ρ H G (.ok a ρ) P) : P a ρ H G := h H G R (.refl _ _ _ _)
theorem Post.alloc {a : α} {P : α → En → Hp → Hp → Prop} (R : Rl K μ σ H ρ G) (al : Alloc H G H1 G1) (h : Post K μ W σ ρ H G (.ok a ρ) P) : P a ρ H1 G1 := h H1 G1 (R.alloc al) al.step
end

section
variable {X : Cx}
theorem PE_of {e : Expr} {t t' : TE} (h : PE X e t) (i : ∀ σ H Q, t' σ H Q → t σ H Q) : PE X e t' := ⟨fun pins s σ H Q I w => h.run pins s σ H Q I (i _ _ _ w)⟩
theorem PT_of {e : Expr} {t t' : TT} (h : PT X e t) (i : ∀ σ H Q, t' σ H Q → t σ H Q) : PT X e t' := ⟨fun pins s σ H Q I w => h.run pins s σ H Q I (i _ _ _ w)⟩
theorem PW_of {e : Expr} {t t' : TT} (h : PW X e t) (i : ∀ σ H Q, t' σ H Q → t σ H Q) : PW X e t' := ⟨fun wh pins s σ H Q I w => h.run wh pins s σ H Q I (i _ _ _ w)⟩
theorem PA_of {e : List Expr} {t t' : TA} (h : PA X e t) (i : ∀ σ H Q, t' σ H Q → t σ H Q) : PA X e t' := ⟨fun pos pins s σ H Q I w => h.run pos pins s σ H Q I (i _ _ _ w)⟩
theorem PS_of {e : Stmt} {t t' : TS} (h : PS X e t) (i : ∀ Dn σ H, t' Dn σ H → t Dn σ H) : PS X e t' := ⟨fun pins s σ H Q I w => h.run pins s σ H Q I (i _ _ _ w)⟩
theorem PSs_of {e : List Stmt} {t t' : TS} (h : PSs X e t) (i : ∀ Dn σ H, t' Dn σ H → t Dn σ H) : PSs X e t' := ⟨fun pins s σ H Q I w => h.run pins s σ H Q I (i _ _ _ w)⟩
end

def vVar (i : Nat) : M D := fun ρ => match ρ[i]? with
  | some (.dat d) => .ok d ρ
  | some (.own m) => .ok m.toD (ρ.set i (.dat m.toD))
  | _ => .no
section
variable {K : PySem.W.Frag} {μ : Mu} {W : WX} {σ : St} {ρ : En} {H G : Hp}
theorem getS_set {i j : Nat} {s : Sl} (h : i < ρ.length) : (ρ.set i s)[j]? = if i = j then some s else ρ[j]? := by
  by_cases e : i = j
  · subst e; rw [if_pos rfl, List.getElem?_set_self h]
  · rw [if_neg e, List.getElem?_set_ne e]
theorem lt_of_get {α : Type} {l : List α} {i : Nat} {a : α} (h : l[i]? = some a) : i < l.length := by
  by_cases q : i < l.length
  · exact q
  · rw [List.getElem?_eq_none (by omega)] at h; cases h
/-- what was one's own is from now on data -/
theorem Rl.freeze (R : Rl K μ σ H ρ G) {i : Nat} {m : MO} {a : Addr} {u : HO} (e : ρ[i]? = some (.own m)) (es : σ[i]? = some (some (.ref a))) (hu : H a = some u) (hg : G a = none) (r : MOR K G m u) :
    Rl K μ σ H (ρ.set i (.dat m.toD)) (upd G a u) ∧ Step σ ρ H G σ (ρ.set i (.dat m.toD)) H (upd G a u) := by
  have hi := lt_of_get e
  have oi : ownAt σ ρ i a := ⟨by rw [e]; trivial, es⟩
  have sg : Same G (upd G a u) := fun b o h => by rw [upd_ne (ne_of_none h hg)]; exact h
  have ow : ∀ j b, ownAt σ (ρ.set i (.dat m.toD)) j b → i ≠ j ∧ ownAt σ ρ j b := fun j b ⟨h1, h2⟩ => by
    rw [getS_set hi] at h1
    by_cases q : i = j
    · rw [if_pos q] at h1; exact h1.elim
    · rw [if_neg q] at h1; exact ⟨q, h1, h2⟩
  refine ⟨⟨by rw [List.length_set]; exact R.len, fun j s q => ?_, fun b o h => ?_, fun j k b h1 h2 => R.apart j k b (ow j b h1).2 (ow k b h2).2⟩, ⟨sg, fun _ _ h _ => h, fun _ h => h, fun j b h => .inr ⟨j, (ow j b h).2⟩, fun b o h => ?_⟩⟩
  · rw [getS_set hi] at q
    by_cases z : i = j
    · rw [if_pos z] at q
      cases q
      subst z
      exact ⟨_, es, _, rfl, (r.up sg).frz upd_same⟩
    · rw [if_neg z] at q
      obtain ⟨o, h1, h2⟩ := R.slot j s q
      refine ⟨o, h1, ?_⟩
      have nb : ∀ {b : Addr}, ownAt σ ρ j b → G b = none → upd G a u b = none := fun {b} ob n => by
        rw [upd_ne fun y => z (R.apart i j a oi (by rw [← y]; exact ob))]; exact n
      cases s with
      | emp => trivial
      | dat d => obtain ⟨v, e1, r1⟩ := h2; exact ⟨v, e1, r1.up sg⟩
      | own m' => obtain ⟨b, u', e1, e2, e3, r1⟩ := h2; exact ⟨b, u', e1, e2, nb ⟨by rw [q]; trivial, by rw [h1, e1]⟩ e3, r1.up sg⟩
      | mu m' => obtain ⟨u', e1, e2, e3, r1⟩ := h2; exact ⟨u', e1, e2, nb ⟨by rw [q]; trivial, by rw [h1, e1]⟩ e3, r1.up sg⟩
      | exc c ns ds => obtain ⟨e1, e2, dd, fs, e3, e4, e5, r1⟩ := h2; exact ⟨e1, e2, dd, fs, e3, sg _ _ e4, e5, r1.up sg⟩
  · by_cases z : b = a
    · subst z; rw [upd_same] at h; rw [← h]; exact hu
    · rw [upd_ne z] at h; exact R.vis b o h
  · by_cases z : b = a
    · subst z; exact .inr (.inr ⟨i, oi⟩)
    · rw [upd_ne z] at h; exact .inl h
theorem v_var {X : Cx} {e : Expr} {i : Nat} (h : PE X e (tVar i)) : PE X e (lE K μ W (vVar i)) := by
  refine PE_of h fun σ H Q ⟨ρ, G, R, w⟩ => ?_
  unfold vVar at w
  split at w
  · rename_i d e1
    obtain ⟨o, e2, v, e3, r⟩ := R.slot i _ e1
    exact ⟨v, by rw [e2, e3], Post.ret R w v r⟩
  · rename_i m e1
    obtain ⟨o, e2, a, u, e3, hu, hg, r⟩ := R.slot i _ e1
    subst e3
    obtain ⟨R', S'⟩ := R.freeze e1 e2 hu hg r
    exact ⟨_, e2, w _ _ R' S' _ ((r.up S'.g).frz upd_same)⟩
  · exact w.elim
theorem v_c {X : Cx} {e : Expr} {v : V} {d : D} (h : PE X e (tC v)) (r : ∀ (K : PySem.W.Frag) (G : Hp), Rp K G v d) : PE X e (lE K μ W (ret d)) :=
  PE_of h fun σ H Q ⟨ρ, G, R, w⟩ => Post.ret R w v (r K G)
theorem v_int {X : Cx} {i : Int} {j : Nat} {pos : Pos} : PE X (.Constant (.int i) j pos) (lE K μ W (ret (.int i))) := v_c pe_int fun _ _ => .int i
theorem v_bl {X : Cx} {i : Bool} {j : Nat} {pos : Pos} : PE X (.Constant (.bool i) j pos) (lE K μ W (ret (.bl i))) := v_c pe_bl fun _ _ => .bl i
theorem v_non {X : Cx} {j : Nat} {pos : Pos} : PE X (.Constant .none j pos) (lE K μ W (ret .non)) := v_c pe_non fun _ _ => .non
theorem v_str {X : Cx} {i : Str} {j : Nat} {pos : Pos} : PE X (.Constant (.str i) j pos) (lE K μ W (ret (.str i))) := v_c pe_str fun _ _ => .str i
end

inductive Ar where
  | nm (i : Nat) | ex (f : M D)
def rAr (K : PySem.W.Frag) (μ : Mu) (W : WX) : Ar → TE
  | .nm i => tVar i
  | .ex f => lE K μ W f
def rArs (K : PySem.W.Frag) (μ : Mu) (W : WX) : List Ar → TA
  | [] => tNil
  | a :: as => tCons (rAr K μ W a) (rArs K μ W as)
def ev : Ar → M (Sum Nat D)
  | .nm i => fun ρ => match rdS ρ i with
    | some _ => .ok (.inl i) ρ
    | none => .no
  | .ex f => bind f fun d => ret (.inr d)
def evs : List Ar → M (List (Sum Nat D))
  | [] => ret []
  | a :: as => bind (ev a) fun s => bind (evs as) fun ss => ret (s :: ss)
def rd (ρ : En) : Sum Nat D → Option D
  | .inl i => rdS ρ i
  | .inr d => some d
def rds (ρ : En) : List (Sum Nat D) → Option (List D)
  | [] => some []
  | s :: ss => match rd ρ s with
    | some d => (match rds ρ ss with
      | some ds => some (d :: ds)
      | none => none)
    | none => none
def opx {α : Type} (o : List D → Option α) (ss : List (Sum Nat D)) : M α := fun ρ => match rds ρ ss with
  | some ds => (match o ds with
    | some d => .ok d ρ
    | none => .no)
  | none => .no
def opv (as : List Ar) (o : List D → Option D) : M D := bind (evs as) (opx o)
def opo (as : List Ar) (o : List D → Option MO) : M MO := bind (evs as) (opx o)
def Pd (K : PySem.W.Frag) (σ : St) (G : Hp) (v : V) : Sum Nat D → Prop
  | .inl i => σ[i]? = some (some v)
  | .inr d => Rp K G v d
inductive PdA (K : PySem.W.Frag) (σ : St) (G : Hp) : List V → List (Sum Nat D) → Prop
  | nil : PdA K σ G [] []
  | cons {v : V} {vs : List V} {d : Sum Nat D} {ds : List (Sum Nat D)} : Pd K σ G v d → PdA K σ G vs ds → PdA K σ G (v :: vs) (d :: ds)
inductive RbA (K : PySem.W.Frag) (H G : Hp) : List V → List D → Prop
  | nil : RbA K H G [] []
  | cons {v : V} {vs : List V} {d : D} {ds : List D} : Rb K H G v d → RbA K H G vs ds → RbA K H G (v :: vs) (d :: ds)
section
variable {K : PySem.W.Frag} {μ : Mu} {W : WX} {σ : St} {ρ : En} {H G G' : Hp}
theorem Pd.up {v : V} {s : Sum Nat D} (h : Pd K σ G v s) (e : Same G G') : Pd K σ G' v s := by
  cases s with
  | inl i => exact h
  | inr d => exact Rp.up h e
theorem PdA.up : ∀ {vs : List V} {ss : List (Sum Nat D)}, PdA K σ G vs ss → Same G G' → PdA K σ G' vs ss
  | _, _, .nil, _ => .nil
  | _, _, .cons a b, e => .cons (a.up e) (b.up e)
theorem Pd.rb {v : V} {s : Sum Nat D} {d : D} (R : Rl K μ σ H ρ G) (h : Pd K σ G v s) (e : rd ρ s = some d) : Rb K H G v d := by
  cases s with
  | inl i =>
    obtain ⟨v', e1, r⟩ := R.read e
    have e2 : σ[i]? = some (some v) := h
    rw [e2] at e1
    cases e1
    exact r
  | inr d' =>
    cases e
    exact .inl h
theorem PdA.rb (R : Rl K μ σ H ρ G) : ∀ {vs : List V} {ss : List (Sum Nat D)} {ds : List D}, PdA K σ G vs ss → rds ρ ss = some ds → RbA K H G vs ds
  | _, _, _, .nil, e => by cases e; exact .nil
  | _, _ :: _, ds, .cons a b, e => by
    unfold rds at e
    split at e
    · rename_i d e1
      split at e
      · rename_i es e2
        cases e
        exact .cons (Pd.rb R a e1) (PdA.rb R b e2)
      · cases e
    · cases e
theorem bind_assoc {α β γ : Type} (f : M α) (g : α → M β) (k : β → M γ) : bind (bind f g) k = bind f fun a => bind (g a) k := by
  funext ρ
  unfold Vi.bind
  cases f ρ <;> rfl
theorem bind_ret {α β : Type} (a : α) (k : α → M β) : bind (ret a) k = k a := rfl
theorem ev_go {α : Type} {a : Ar} {k : Sum Nat D → M α} {P : α → En → Hp → Hp → Prop} {Q : VK} (R : Rl K μ σ H ρ G) (h : Post K μ W σ ρ H G (bind (ev a) k ρ) P)
    (c : ∀ v s ρ' H' G', Rl K μ σ H' ρ' G' → Step σ ρ H G σ ρ' H' G' → Pd K σ G' v s → Post K μ W σ ρ' H' G' (k s ρ') P → Q v H') : rAr K μ W a σ H Q := by
  cases a with
  | nm i =>
    have h2 := Post.bind h
    unfold ev at h2
    cases e : rdS ρ i with
    | none =>
      simp only [e] at h2
      exact h2.elim
    | some d =>
      simp only [e] at h2
      obtain ⟨v, e1, r⟩ := R.read e
      exact ⟨v, e1, c v (.inl i) ρ H G R (.refl _ _ _ _) e1 (Post.ret R h2)⟩
  | ex f =>
    refine ⟨ρ, G, R, ?_⟩
    have h2 : Post K μ W σ ρ H G (bind f (fun d => k (.inr d)) ρ) P := by
      have e : bind (ev (.ex f)) k = bind f fun d => k (.inr d) := bind_assoc f _ k
      rw [← e]
      exact h
    exact (Post.bind h2).imp fun d ρ' H' G' R' st p v r => c v (.inr d) ρ' H' G' R' st r p
theorem evs_go {α : Type} {P : α → En → Hp → Hp → Prop} : ∀ {as : List Ar} {ρ : En} {H G : Hp} {k : List (Sum Nat D) → M α} {Q : List V → Hp → Prop}, Rl K μ σ H ρ G → Post K μ W σ ρ H G (bind (evs as) k ρ) P →
    (∀ vs ss ρ' H' G', Rl K μ σ H' ρ' G' → Step σ ρ H G σ ρ' H' G' → PdA K σ G' vs ss → Post K μ W σ ρ' H' G' (k ss ρ') P → Q vs H') → rArs K μ W as σ H Q
  | [], ρ, H, G, k, Q, R, h, c => c [] [] ρ H G R (.refl _ _ _ _) .nil h
  | a :: as, ρ, H, G, k, Q, R, h, c => by
    have e : bind (evs (a :: as)) k = bind (ev a) fun s => bind (evs as) fun ss => k (s :: ss) := by
      show bind (bind (ev a) _) k = _
      rw [bind_assoc]
      congr 1
      funext s
      rw [bind_assoc]
      rfl
    rw [e] at h
    refine ev_go R h fun v s ρ1 H1 G1 R1 S1 p1 h1 => ?_
    refine evs_go R1 h1 fun vs ss ρ2 H2 G2 R2 S2 p2 h2 => ?_
    exact c _ _ ρ2 H2 G2 R2 (S1.trans S2) (.cons (p1.up S2.g) p2) h2
end

/-- o on data says what r on values does; the answer is data (perhaps new) -/
def S1 (K : PySem.W.Frag) (r : V → Hp → VK → Prop) (o : List D → Option D) : Prop :=
  ∀ (H G : Hp) (x : V) (d z : D) (Q : VK), Same G H → Rb K H G x d → o [d] = some z → (∀ v H' G', Alloc H G H' G' → Rp K G' v z → Q v H') → r x H Q
def S2 (K : PySem.W.Frag) (r : R2) (o : List D → Option D) : Prop :=
  ∀ (H G : Hp) (x y : V) (d e z : D) (Q : VK), Same G H → Rb K H G x d → Rb K H G y e → o [d, e] = some z → (∀ v H' G', Alloc H G H' G' → Rp K G' v z → Q v H') → r x y H Q
def SA (K : PySem.W.Frag) (r : List V → Hp → VK → Prop) (o : List D → Option D) : Prop :=
  ∀ (H G : Hp) (xs : List V) (ds : List D) (z : D) (Q : VK), Same G H → RbA K H G xs ds → o ds = some z → (∀ v H' G', Alloc H G H' G' → Rp K G' v z → Q v H') → r xs H Q
/-- the answer is a new thing of one's own -/
def O1 (K : PySem.W.Frag) (r : V → Hp → VK → Prop) (o : List D → Option MO) : Prop :=
  ∀ (H G : Hp) (x : V) (d : D) (z : MO) (Q : VK), Same G H → Rb K H G x d → o [d] = some z → (∀ p u, H p = none → MOR K G z u → Q (.ref p) (upd H p u)) → r x H Q
def O2 (K : PySem.W.Frag) (r : R2) (o : List D → Option MO) : Prop :=
  ∀ (H G : Hp) (x y : V) (d e : D) (z : MO) (Q : VK), Same G H → Rb K H G x d → Rb K H G y e → o [d, e] = some z → (∀ p u, H p = none → MOR K G z u → Q (.ref p) (upd H p u)) → r x y H Q
def OA (K : PySem.W.Frag) (r : List V → Hp → VK → Prop) (o : List D → Option MO) : Prop :=
  ∀ (H G : Hp) (xs : List V) (ds : List D) (z : MO) (Q : VK), Same G H → RbA K H G xs ds → o ds = some z → (∀ p u, H p = none → MOR K G z u → Q (.ref p) (upd H p u)) → r xs H Q

section
variable {K : PySem.W.Frag} {μ : Mu} {W : WX} {σ : St} {H : Hp} {Q : VK} {a b : Ar} {as : List Ar}
theorem opv_end {α : Type} {ρ : En} {G : Hp} {o : List D → Option α} {ss : List (Sum Nat D)} {P : α → En → Hp → Hp → Prop}
    (h : Post K μ W σ ρ H G (opx o ss ρ) P) :
    ∃ ds z, rds ρ ss = some ds ∧ o ds = some z ∧ Post K μ W σ ρ H G (.ok z ρ) P := by
  unfold opx at h
  cases e : rds ρ ss with
  | none => simp only [e] at h; exact h.elim
  | some ds =>
    cases e2 : o ds with
    | none => simp only [e, e2] at h; exact h.elim
    | some z => simp only [e, e2] at h; exact ⟨ds, z, rfl, e2, h⟩
theorem rds2 {ρ : En} {s t : Sum Nat D} {ds : List D} (h : rds ρ [s, t] = some ds) : ∃ d e, ds = [d, e] ∧ rd ρ s = some d ∧ rd ρ t = some e := by
  unfold rds at h
  split at h
  · rename_i d e1
    unfold rds at h
    split at h
    · rename_i es e2
      split at e2
      · rename_i d2 e3
        cases e2
        cases h
        exact ⟨d, d2, rfl, e1, e3⟩
      · cases e2
    · cases h
  · cases h
theorem rds1 {ρ : En} {s : Sum Nat D} {ds : List D} (h : rds ρ [s] = some ds) : ∃ d, ds = [d] ∧ rd ρ s = some d := by
  unfold rds at h
  split at h
  · rename_i d e1
    cases h
    exact ⟨d, rfl, e1⟩
  · cases h
theorem evs1 {α : Type} {k : List (Sum Nat D) → M α} : bind (evs [a]) k = bind (ev a) fun s => k [s] := by
  show bind (bind (ev a) _) k = _
  rw [bind_assoc]
  rfl
theorem evs2 {α : Type} {k : List (Sum Nat D) → M α} : bind (evs [a, b]) k = bind (ev a) fun s => bind (ev b) fun t => k [s, t] := by
  show bind (bind (ev a) _) k = _
  rw [bind_assoc]
  congr 1
  funext s
  show bind (bind (bind (ev b) _) _) k = _
  rw [bind_assoc, bind_assoc]
  rfl
theorem go1 {r : V → Hp → VK → Prop} {o : List D → Option D} (hs : S1 K r o) (h : lE K μ W (opv [a] o) σ H Q) : rAr K μ W a σ H fun x H1 => r x H1 Q := by
  obtain ⟨ρ, G, R, h⟩ := h
  unfold opv at h
  rw [evs1] at h
  refine ev_go R h fun x s ρ1 H1 G1 R1 S1' p1 h1 => ?_
  obtain ⟨ds, z, e1, e2, h2⟩ := opv_end h1
  obtain ⟨d, rfl, f1⟩ := rds1 e1
  exact hs H1 G1 x d z Q R1.vis (p1.rb R1 f1) e2 fun v H' G' al rv => Post.alloc R1 al h2 v rv
theorem go2 {r : R2} {o : List D → Option D} (hs : S2 K r o) (h : lE K μ W (opv [a, b] o) σ H Q) : tOp r (rAr K μ W a) (rAr K μ W b) σ H Q := by
  obtain ⟨ρ, G, R, h⟩ := h
  unfold opv at h
  rw [evs2] at h
  refine ev_go R h fun x s ρ1 H1 G1 R1 S1' p1 h1 => ?_
  refine ev_go R1 h1 fun y t ρ2 H2 G2 R2 S2' p2 h2 => ?_
  obtain ⟨ds, z, e1, e2, h3⟩ := opv_end h2
  obtain ⟨d, e, rfl, f1, f2⟩ := rds2 e1
  exact hs H2 G2 x y d e z Q R2.vis ((p1.up S2'.g).rb R2 f1) (p2.rb R2 f2) e2 fun v H' G' al rv => Post.alloc R2 al h3 v rv
theorem goA {r : List V → Hp → VK → Prop} {o : List D → Option D} (hs : SA K r o) (h : lE K μ W (opv as o) σ H Q) : rArs K μ W as σ H fun xs H1 => r xs H1 Q := by
  obtain ⟨ρ, G, R, h⟩ := h
  refine evs_go R h fun xs ss ρ1 H1 G1 R1 S1' p1 h1 => ?_
  obtain ⟨ds, z, e1, e2, h2⟩ := opv_end h1
  exact hs H1 G1 xs ds z Q R1.vis (p1.rb R1 e1) e2 fun v H' G' al rv => Post.alloc R1 al h2 v rv
theorem no_own {ρ : En} {G : Hp} (R : Rl K μ σ H ρ G) {p : Addr} (n : H p = none) : ∀ i, ¬ ownAt σ ρ i p := fun i ⟨h1, h2⟩ => by
  cases e : ρ[i]? with
  | none => rw [e] at h1; exact h1
  | some s =>
    rw [e] at h1
    obtain ⟨o, e1, q⟩ := R.slot i s e
    rw [h2] at e1
    cases e1
    cases s with
    | own m => obtain ⟨b, u, z, y, _⟩ := q; cases z; rw [n] at y; cases y
    | mu m => obtain ⟨u, z, y, _⟩ := q; cases z; rw [n] at y; cases y
    | _ => exact h1
/-- a new hidden thing is handed on -/
theorem Post.hid {ρ : En} {G : Hp} {z : MO} {p : Addr} {u : HO} {H0 : Hp} (R : Rl K μ σ H ρ G) (n : H p = none) (n0 : H0 p = none) (r : MOR K G z u)
    (h : Post K μ W σ ρ H G (.ok z ρ) fun m ρ' H' G' => ∀ p u, H' p = some u → G' p = none → (∀ i, ¬ ownAt σ ρ' i p) → H0 p = none → MOR K G' m u → Q (.ref p) H') : Q (.ref p) (upd H p u) :=
  Post.alloc R (Alloc.hid R.vis n) h p u upd_same (R.vis.free n) (no_own R n) n0 r
theorem goO1 {r : V → Hp → VK → Prop} {o : List D → Option MO} (hs : O1 K r o) (h : lO K μ W (opo [a] o) σ H Q) : rAr K μ W a σ H fun x H1 => r x H1 Q := by
  obtain ⟨ρ, G, R, h⟩ := h
  unfold opo at h
  rw [evs1] at h
  refine ev_go R h fun x s ρ1 H1 G1 R1 S1' p1 h1 => ?_
  obtain ⟨ds, z, e1, e2, h2⟩ := opv_end h1
  obtain ⟨d, rfl, f1⟩ := rds1 e1
  exact hs H1 G1 x d z Q R1.vis (p1.rb R1 f1) e2 fun p u n r => Post.hid R1 n (S1'.dom p n) r h2
theorem goO2 {r : R2} {o : List D → Option MO} (hs : O2 K r o) (h : lO K μ W (opo [a, b] o) σ H Q) : tOp r (rAr K μ W a) (rAr K μ W b) σ H Q := by
  obtain ⟨ρ, G, R, h⟩ := h
  unfold opo at h
  rw [evs2] at h
  refine ev_go R h fun x s ρ1 H1 G1 R1 S1' p1 h1 => ?_
  refine ev_go R1 h1 fun y t ρ2 H2 G2 R2 S2' p2 h2 => ?_
  obtain ⟨ds, z, e1, e2, h3⟩ := opv_end h2
  obtain ⟨d, e, rfl, f1, f2⟩ := rds2 e1
  exact hs H2 G2 x y d e z Q R2.vis ((p1.up S2'.g).rb R2 f1) (p2.rb R2 f2) e2 fun p u n r => Post.hid R2 n ((S1'.trans S2').dom p n) r h3
theorem goOA {r : List V → Hp → VK → Prop} {o : List D → Option MO} (hs : OA K r o) (h : lO K μ W (opo as o) σ H Q) : rArs K μ W as σ H fun xs H1 => r xs H1 Q := by
  obtain ⟨ρ, G, R, h⟩ := h
  refine evs_go R h fun xs ss ρ1 H1 G1 R1 S1' p1 h1 => ?_
  obtain ⟨ds, z, e1, e2, h2⟩ := opv_end h1
  exact hs H1 G1 xs ds z Q R1.vis (p1.rb R1 e1) e2 fun p u n r => Post.hid R1 n (S1'.dom p n) r h2
end

/-- a new thing is at once data -/
def frz (f : M MO) : M D := bind f fun m => ret m.toD
section
variable {K : PySem.W.Frag} {μ : Mu} {W : WX} {X : Cx}
theorem v_frz {e : Expr} {f : M MO} (h : PE X e (lO K μ W f)) : PE X e (lE K μ W (frz f)) := by
  refine PE_of h fun σ H Q ⟨ρ, G, R, w⟩ => ⟨ρ, G, R, ?_⟩
  unfold frz Vi.bind at w
  cases ef : f ρ with
  | no => rw [ef] at w; exact w
  | ex c ns ds ρ' => rw [ef] at w; exact w
  | ok m ρ' =>
    rw [ef] at w
    intro H' G' R' S' p u hu hg no n0 r
    have al : Same G' (upd G' p u) := fun b o h => by rw [upd_ne (ne_of_none h hg)]; exact h
    have hn : ∀ {j : Nat} {b : Addr}, ownAt σ ρ' j b → G' b = none → upd G' p u b = none := fun {j b} ob n => by
      rw [upd_ne fun y => no j (by rw [← y]; exact ob)]; exact n
    refine w H' (upd G' p u) ⟨R'.len, fun j s q => ?_, fun b o z => ?_, R'.apart⟩ ⟨S'.g.trans al, S'.keep, S'.dom, S'.ow, fun b o z => ?_⟩ (.ref p) ((r.up al).frz upd_same)
    · obtain ⟨o, h1, h2⟩ := R'.slot j s q
      refine ⟨o, h1, ?_⟩
      cases s with
      | emp => trivial
      | dat d => obtain ⟨v, e1, r1⟩ := h2; exact ⟨v, e1, r1.up al⟩
      | own m' => obtain ⟨b, u', e1, e2, e3, r1⟩ := h2; exact ⟨b, u', e1, e2, hn ⟨by rw [q]; trivial, by rw [h1, e1]⟩ e3, r1.up al⟩
      | mu m' => obtain ⟨u', e1, e2, e3, r1⟩ := h2; exact ⟨u', e1, e2, hn ⟨by rw [q]; trivial, by rw [h1, e1]⟩ e3, r1.up al⟩
      | exc c ns ds => obtain ⟨e1, e2, dd, fs, e3, e4, e5, r1⟩ := h2; exact ⟨e1, e2, dd, fs, e3, al _ _ e4, e5, r1.up al⟩
    · by_cases y : b = p
      · subst y; rw [upd_same] at z; rw [← z]; exact hu
      · rw [upd_ne y] at z; exact R'.vis b o z
    · by_cases y : b = p
      · subst y; exact .inr (.inl n0)
      · rw [upd_ne y] at z; exact S'.vis b o z
end
end Vi

namespace Vi
open PySem PySem.Spec L2

section
variable {K : PySem.W.Frag} {μ : Mu} {W : WX} {X : Cx} {a b c : Ar} {as : List Ar} {ea eb ec e : Expr} {pos : Pos}

theorem v_bin {op : Operator} {r : R2} {o : List D → Option D} (ho : OpR X (binaryOp op) r) (hs : S2 K r o) (ha : PE X ea (rAr K μ W a)) (hb : PE X eb (rAr K μ W b)) : PE X (.BinOp ea op eb pos) (lE K μ W (opv [a, b] o)) :=
  PE_of (pe_op ho ha hb) fun σ H Q w => go2 hs w
theorem v_binO {op : Operator} {r : R2} {o : List D → Option MO} (ho : OpR X (binaryOp op) r) (hs : O2 K r o) (ha : PE X ea (rAr K μ W a)) (hb : PE X eb (rAr K μ W b)) : PE X (.BinOp ea op eb pos) (lO K μ W (opo [a, b] o)) :=
  PE_of (pe_op ho ha hb) fun σ H Q w => goO2 hs w
theorem v_cmp {op : CmpOp} {r : R2} {o : List D → Option D} (ho : OpR X (compareOp op) r) (hs : S2 K r o) (ha : PE X ea (rAr K μ W a)) (hb : PE X eb (rAr K μ W b)) (hm : behindInMarks op eb = false) : PE X (.Compare ea [op] [eb] pos) (lE K μ W (opv [a, b] o)) :=
  PE_of (pe_cmpR ho ha hb hm) fun σ H Q w => go2 hs w
theorem v_un {op : UnaryOp} {r : V → Hp → VK → Prop} {o : List D → Option D} (ho : UnR X (unaryOp op) r) (hs : S1 K r o) (ha : PE X ea (rAr K μ W a)) : PE X (.UnaryOp op ea pos) (lE K μ W (opv [a] o)) :=
  PE_of (pe_un ho ha) fun σ H Q w => go1 hs w
theorem v_ix {r : R2} {o : List D → Option D} (hr : IxR X r) (hs : S2 K r o) (ha : PE X ea (rAr K μ W a)) (hb : PE X eb (rAr K μ W b)) (hp : PlainIx eb) : PE X (.Subscript ea eb pos) (lE K μ W (opv [a, b] o)) :=
  PE_of (pe_ix hr ha hb hp) fun σ H Q w => go2 hs w

theorem v_nil : PA X [] (rArs K μ W []) := pa_nil
theorem v_cons {es : List Expr} (ha : PE X e (rAr K μ W a)) (hr : PA X es (rArs K μ W as)) (hs : starEach (e :: es) X.env = (false, eval e X.env) :: starEach es X.env := by rfl) : PA X (e :: es) (rArs K μ W (a :: as)) := pa_cons ha hr hs
theorem v_callB {id : String} {x : Str} {p : Pos} {es : List Expr} {r : List V → Hp → VK → Prop} {o : List D → Option D} (hc : CallR X (.builtin id) r) (hs : SA K r o) (hg : Gl X x) (hm : X.mg x = none) (hv : bootBuiltins x = some (.builtin id)) (ha : PA X (e :: es) (rArs K μ W as))
    (hn : x ≠ "__name__" := by decide) (hdb : (x == ("__debug__" : Str)) = false := by decide) (he : starEach (e :: es) X.env = (false, eval e X.env) :: starEach es X.env := by rfl) (hpl : (backTo pos (starEach es X.env)).any (·.1) = false := by rfl) :
    PE X (.Call (.Name x p) (e :: es) [] pos) (lE K μ W (opv as o)) :=
  PE_of (pe_callB hc hg hm hv ha hn hdb he hpl) fun σ H Q w => goA hs w
theorem v_callT {T : String} {x : Str} {p : Pos} {es : List Expr} {r : List V → Hp → VK → Prop} {o : List D → Option D} (hc : CallR X (.type T) r) (hs : SA K r o) (hg : Gl X x) (hm : X.mg x = none) (hv : bootBuiltins x = some (.type T)) (ha : PA X (e :: es) (rArs K μ W as))
    (hn : x ≠ "__name__" := by decide) (hdb : (x == ("__debug__" : Str)) = false := by decide) (he : starEach (e :: es) X.env = (false, eval e X.env) :: starEach es X.env := by rfl) (hpl : (backTo pos (starEach es X.env)).any (·.1) = false := by rfl) :
    PE X (.Call (.Name x p) (e :: es) [] pos) (lE K μ W (opv as o)) :=
  PE_of (pe_callTy hc hg hm hv ha hn hdb he hpl) fun σ H Q w => goA hs w
theorem v_callTO {T : String} {x : Str} {p : Pos} {es : List Expr} {r : List V → Hp → VK → Prop} {o : List D → Option MO} (hc : CallR X (.type T) r) (hs : OA K r o) (hg : Gl X x) (hm : X.mg x = none) (hv : bootBuiltins x = some (.type T)) (ha : PA X (e :: es) (rArs K μ W as))
    (hn : x ≠ "__name__" := by decide) (hdb : (x == ("__debug__" : Str)) = false := by decide) (he : starEach (e :: es) X.env = (false, eval e X.env) :: starEach es X.env := by rfl) (hpl : (backTo pos (starEach es X.env)).any (·.1) = false := by rfl) :
    PE X (.Call (.Name x p) (e :: es) [] pos) (lO K μ W (opo as o)) :=
  PE_of (pe_callTy hc hg hm hv ha hn hdb he hpl) fun σ H Q w => goOA hs w

def vTb (f : M D) : M Bool := bind f fun d ρ => match d with
  | .bl b => .ok b ρ
  | _ => .no
theorem lE_T {f : M D} {σ : St} {H : Hp} {Q : Bool → Hp → Prop} (w : lT K μ W (vTb f) σ H Q) : lE K μ W f σ H fun x H1 => ∃ k, x = .bl k ∧ Q k H1 := by
  obtain ⟨ρ, G, R, w⟩ := w
  refine ⟨ρ, G, R, (Post.bind w).imp fun d ρ' H' G' R' S' h v r => ?_⟩
  cases d with
  | bl b => cases r; exact ⟨b, rfl, Post.ret R' h⟩
  | _ => exact h.elim
theorem v_tv {f : M D} (h : PE X e (lE K μ W f)) (he : ∀ whole, isTrue e X.env whole = (do let v ← whole; standAt e.pos; holding [v] (truthy v)) := by intro _; rfl) : PT X e (lT K μ W (vTb f)) :=
  PT_of (pt_val h he) fun σ H Q w => lE_T w
theorem v_tcmp {op : CmpOp} {r : R2} {o : List D → Option D} (ho : OpR X (compareOp op) r) (hs : S2 K r o) (ha : PE X ea (rAr K μ W a)) (hb : PE X eb (rAr K μ W b)) (hm : behindInMarks op eb = false) : PT X (.Compare ea [op] [eb] pos) (lT K μ W (vTb (opv [a, b] o))) :=
  PT_of (pt_cmpR ho ha hb hm) fun σ H Q w => go2 hs (lE_T w)
/-- truth of data -/
def truD : D → Option Bool
  | .non => some false
  | .bl b => some b
  | .int i => some (i != 0)
  | .lst xs => some (!xs.isEmpty)
  | .tup xs => some (!xs.isEmpty)
  | .dic ks _ => some (!ks.isEmpty)
  | _ => none
def vTt (a : Ar) : M Bool := bind (evs [a]) (opx fun ds => match ds with
  | [d] => truD d
  | _ => none)
theorem isEmpty_rp {G : Hp} {vs : List V} {ds : List D} (r : RpA K G vs ds) : vs.isEmpty = ds.isEmpty := by cases r <;> rfl
theorem tru_rb {H G : Hp} {v : V} {d : D} {b : Bool} (s : Same G H) (r : Rb K H G v d) (h : truD d = some b) : TruV K v H b := by
  cases d with
  | non => cases r.non; cases h; exact rfl
  | bl c => cases r.bl; cases h; exact rfl
  | int i => cases r.int; cases h; exact rfl
  | str x => cases h
  | lst xs =>
    obtain ⟨a, vs, rfl, h1, h2⟩ := r.lst s
    cases h
    exact .inl ⟨vs, SqL.of h1, by rw [isEmpty_rp h2]⟩
  | fro xs => cases h
  | tup xs =>
    obtain ⟨a, vs, rfl, h1, h2⟩ := r.tup s
    cases h
    exact .inr (.inl ⟨vs, h1, by rw [isEmpty_rp h2]⟩)
  | dic ks ds =>
    obtain ⟨a, kvs, rfl, h1, h2, h3⟩ := r.dic s
    cases h
    refine .inr (.inr ⟨kvs, h1, ?_⟩)
    subst h2
    cases kvs <;> rfl
  | ins c ns ds => cases h
theorem v_tt (h : PE X e (rAr K μ W a)) (he : ∀ whole, isTrue e X.env whole = (do let v ← whole; standAt e.pos; holding [v] (truthy v)) := by intro _; rfl) (hK : X.K = K := by rfl) : PT X e (lT K μ W (vTt a)) := by
  subst hK
  refine PT_of (pt_truth h he) fun σ H Q w => ?_
  obtain ⟨ρ, G, R, w⟩ := w
  unfold vTt at w
  rw [evs1] at w
  refine ev_go R w fun x s ρ1 H1 G1 R1 S1 p1 h1 => ?_
  obtain ⟨ds, z, e1, e2, h2⟩ := opv_end h1
  obtain ⟨d, rfl, f1⟩ := rds1 e1
  exact ⟨z, tru_rb R1.vis (p1.rb R1 f1) e2, Post.ret R1 h2⟩
def vNot (f : M Bool) : M Bool := bind f fun b => ret (!b)
def vAnd (f g : M Bool) : M Bool := bind f fun b => if b = true then g else ret false
def vOr (f g : M Bool) : M Bool := bind f fun b => if b = true then ret true else g
variable {f g : M Bool} {rest : List Expr}
theorem lT_bind {α : Type} {k : Bool → M α} {σ : St} {ρ : En} {H G : Hp} {P : α → En → Hp → Hp → Prop} {Q : Bool → Hp → Prop} (R : Rl K μ σ H ρ G) (w : Post K μ W σ ρ H G (bind f k ρ) P)
    (c : ∀ b ρ' H' G', Rl K μ σ H' ρ' G' → Step σ ρ H G σ ρ' H' G' → Post K μ W σ ρ' H' G' (k b ρ') P → Q b H') : lT K μ W f σ H Q :=
  ⟨ρ, G, R, (Post.bind w).imp fun b ρ' H' G' R' S' h => c b ρ' H' G' R' S' h⟩
theorem v_not (h : PT X e (lT K μ W f)) : PT X (.UnaryOp .Not e pos) (lT K μ W (vNot f)) :=
  PT_of (pt_not h) fun σ H Q ⟨ρ, G, R, w⟩ => lT_bind R w fun b ρ' H' G' R' S' h => Post.ret R' h
theorem v_and1 (h : PT X e (lT K μ W f)) : PW X (.BoolOp .And [e] pos) (lT K μ W f) := pw_and1 h
theorem v_or1 (h : PT X e (lT K μ W f)) : PW X (.BoolOp .Or [e] pos) (lT K μ W f) := pw_or1 h
theorem v_and (h : PT X e (lT K μ W f)) (h' : PW X (.BoolOp .And (ea :: rest) pos) (lT K μ W g)) : PW X (.BoolOp .And (e :: ea :: rest) pos) (lT K μ W (vAnd f g)) :=
  PW_of (pw_and h h') fun σ H Q ⟨ρ, G, R, w⟩ => lT_bind R w fun b ρ' H' G' R' S' h => by
    cases b with
    | true => exact iteT ⟨ρ', G', R', h⟩
    | false => exact iteF (Post.ret R' h)
theorem v_or (h : PT X e (lT K μ W f)) (h' : PW X (.BoolOp .Or (ea :: rest) pos) (lT K μ W g)) : PW X (.BoolOp .Or (e :: ea :: rest) pos) (lT K μ W (vOr f g)) :=
  PW_of (pw_or h h') fun σ H Q ⟨ρ, G, R, w⟩ => lT_bind R w fun b ρ' H' G' R' S' h => by
    cases b with
    | true => exact iteT (Post.ret R' h)
    | false => exact iteF ⟨ρ', G', R', h⟩
def vIfE (t : M Bool) (f g : M D) : M D := bind t fun b => if b = true then f else g
theorem v_ifE {f' g' : M D} (ht : PT X ec (lT K μ W f)) (ha : PE X ea (lE K μ W f')) (hb : PE X eb (lE K μ W g')) : PE X (.IfExp ec ea eb pos) (lE K μ W (vIfE f f' g')) :=
  PE_of (pe_ifExp ht ha hb) fun σ H Q ⟨ρ, G, R, w⟩ => lT_bind R w fun b ρ' H' G' R' S' h => by
    cases b with
    | true => exact iteT ⟨ρ', G', R', h⟩
    | false => exact iteF ⟨ρ', G', R', h⟩
def vAndV (f g : M D) : M D := bind (vTb f) fun b => if b = true then g else ret (.bl false)
def vOrV (f g : M D) : M D := bind (vTb f) fun b => if b = true then ret (.bl true) else g
def vNotV (f : M D) : M D := bind (vTb f) fun b => ret (.bl (!b))
variable {f' g' : M D}
theorem lTb_bind {α : Type} {k : Bool → M α} {σ : St} {ρ : En} {H G : Hp} {P : α → En → Hp → Hp → Prop} {Q : V → Hp → Prop} (R : Rl K μ σ H ρ G) (w : Post K μ W σ ρ H G (bind (vTb f') k ρ) P)
    (c : ∀ b ρ' H' G', Rl K μ σ H' ρ' G' → Step σ ρ H G σ ρ' H' G' → Post K μ W σ ρ' H' G' (k b ρ') P → Q (.bl b) H') : lE K μ W f' σ H Q := by
  have w2 : Post K μ W σ ρ H G (bind f' (fun d => bind (fun ρ => match d with | .bl b => Rs.ok b ρ | _ => .no) k) ρ) P := by
    rw [← bind_assoc]; exact w
  refine ⟨ρ, G, R, (Post.bind w2).imp fun d ρ' H' G' R' S' h v r => ?_⟩
  cases d with
  | bl b => cases r; exact c b ρ' H' G' R' S' h
  | _ => exact h.elim
theorem v_one {op : BoolOp} (h : PE X e (lE K μ W f')) : PE X (.BoolOp op [e] pos) (lE K μ W f') := pe_one h
theorem v_andV (h : PE X e (lE K μ W f')) (h' : PE X (.BoolOp .And (ea :: rest) pos) (lE K μ W g')) : PE X (.BoolOp .And (e :: ea :: rest) pos) (lE K μ W (vAndV f' g')) :=
  PE_of (pe_and h h') fun σ H Q ⟨ρ, G, R, w⟩ => lTb_bind R w fun b ρ' H' G' R' S' h => ⟨b, rfl, by
    cases b with
    | true => exact iteT ⟨ρ', G', R', h⟩
    | false => exact iteF (Post.ret R' h _ (.bl _))⟩
theorem v_orV (h : PE X e (lE K μ W f')) (h' : PE X (.BoolOp .Or (ea :: rest) pos) (lE K μ W g')) : PE X (.BoolOp .Or (e :: ea :: rest) pos) (lE K μ W (vOrV f' g')) :=
  PE_of (pe_or h h') fun σ H Q ⟨ρ, G, R, w⟩ => lTb_bind R w fun b ρ' H' G' R' S' h => ⟨b, rfl, by
    cases b with
    | true => exact iteT (Post.ret R' h _ (.bl _))
    | false => exact iteF ⟨ρ', G', R', h⟩⟩
theorem v_notV (h : PE X e (lE K μ W f')) : PE X (.UnaryOp .Not e pos) (lE K μ W (vNotV f')) :=
  PE_of (pe_not h) fun σ H Q ⟨ρ, G, R, w⟩ => lTb_bind R w fun b ρ' H' G' R' S' h => ⟨b, rfl, Post.ret R' h _ (.bl _)⟩

def blD : D → Option Bool
  | .bl b => some b
  | _ => none
def vChain (a b c : Ar) (o o' : List D → Option D) : M D := bind (evs [a, b]) fun ss => bind (opx o ss) fun d => bind (opt (blD d)) fun k =>
  if k = true then bind (evs [c]) fun ts => opx (fun ds => match ds with
    | [x, y, z] => o' [y, z]
    | _ => none) (ss ++ ts) else ret (.bl false)
theorem rds3 {ρ : En} {s t u : Sum Nat D} {ds : List D} (h : rds ρ [s, t, u] = some ds) : ∃ d e g, ds = [d, e, g] ∧ rd ρ s = some d ∧ rd ρ t = some e ∧ rd ρ u = some g := by
  unfold rds at h
  split at h
  · rename_i d e1
    split at h
    · rename_i es e2
      obtain ⟨x, y, rfl, h1, h2⟩ := rds2 e2
      cases h
      exact ⟨d, x, y, rfl, e1, h1, h2⟩
    · cases h
  · cases h
/-- what is compared is a bool, nothing new -/
def SB (K : PySem.W.Frag) (r : R2) (o : List D → Option D) : Prop :=
  ∀ (H G : Hp) (x y : V) (d e z : D) (Q : VK), Same G H → Rb K H G x d → Rb K H G y e → o [d, e] = some z → (∀ k, z = .bl k → Q (.bl k) H) → r x y H Q
theorem SB.s2 {r : R2} {o : List D → Option D} (h : SB K r o) : S2 K r o := fun H G x y d e z Q s rx ry ho q => h H G x y d e z Q s rx ry ho fun k ek => by
  subst ek
  exact q (.bl k) H G (.refl s) (.bl k)
theorem go_chain {r r' : R2} {o o' : List D → Option D} (hs : SB K r o) (hs' : SB K r' o') {σ : St} {H : Hp} {Q : VK} (w : lE K μ W (vChain a b c o o') σ H Q) : tChain r r' (rAr K μ W a) (rAr K μ W b) (rAr K μ W c) σ H Q := by
  obtain ⟨ρ, G, R, w⟩ := w
  unfold vChain at w
  rw [evs2] at w
  refine ev_go R w fun x s ρ1 H1 G1 R1 S1 p1 h1 => ?_
  refine ev_go R1 h1 fun y t ρ2 H2 G2 R2 S2 p2 h2 => ?_
  have h3 := Post.bind h2
  unfold opx at h3
  cases e1 : rds ρ2 [s, t] with
  | none => simp only [e1] at h3; exact h3.elim
  | some ds =>
    obtain ⟨d, e, rfl, f1, f2⟩ := rds2 e1
    cases e2 : o [d, e] with
    | none => simp only [e1, e2] at h3; exact h3.elim
    | some z =>
      simp only [e1, e2] at h3
      have h4 := Post.ret R2 h3
      refine hs H2 G2 x y d e z _ R2.vis ((p1.up S2.g).rb R2 f1) (p2.rb R2 f2) e2 fun k ek => ⟨k, rfl, ?_⟩
      subst ek
      have h5 := Post.ret R2 (Post.bind h4)
      cases k with
      | false => exact iteF (Post.ret R2 h5 _ (.bl _))
      | true =>
        refine iteT ?_
        rw [if_pos rfl, evs1] at h5
        refine ev_go R2 h5 fun u q ρ3 H3 G3 R3 S3 p3 h6 => ?_
        obtain ⟨ds2, z2, g1, g2, h7⟩ := opv_end h6
        obtain ⟨d', e', g', rfl, k1, k2, k3⟩ := rds3 g1
        refine hs' H3 G3 y u e' g' z2 Q R3.vis ((p2.up S3.g).rb R3 k2) (p3.rb R3 k3) g2 fun k ek => ?_
        subst ek
        exact Post.ret R3 h7 _ (.bl k)
theorem v_chain {op op' : CmpOp} {r r' : R2} {o o' : List D → Option D} (ho : OpR X (compareOp op) r) (ho' : OpR X (compareOp op') r') (hs : SB K r o) (hs' : SB K r' o') (ha : PE X ea (rAr K μ W a)) (hb : PE X eb (rAr K μ W b)) (hc : PE X ec (rAr K μ W c))
    (hm : lastMarks [op, op'] [eb, ec] = false := by with_unfolding_all rfl) : PE X (.Compare ea [op, op'] [eb, ec] pos) (lE K μ W (vChain a b c o o')) :=
  PE_of (pe_chain ho ho' ha hb hc hm) fun σ H Q w => go_chain hs hs' w
theorem v_tchain {op op' : CmpOp} {r r' : R2} {o o' : List D → Option D} (ho : OpR X (compareOp op) r) (ho' : OpR X (compareOp op') r') (hs : SB K r o) (hs' : SB K r' o') (ha : PE X ea (rAr K μ W a)) (hb : PE X eb (rAr K μ W b)) (hc : PE X ec (rAr K μ W c))
    (hm : lastMarks [op, op'] [eb, ec] = false := by with_unfolding_all rfl) : PT X (.Compare ea [op, op'] [eb, ec] pos) (lT K μ W (vTb (vChain a b c o o'))) :=
  PT_of (pt_chain ho ho' ha hb hc hm) fun σ H Q w => go_chain hs hs' (lE_T w)
end

def evd : List (M D) → M (List D)
  | [] => ret []
  | f :: fs => bind f fun d => bind (evd fs) fun ds => ret (d :: ds)
def rDs (K : PySem.W.Frag) (μ : Mu) (W : WX) : List (M D) → TA
  | [] => tNil
  | f :: fs => tCons (lE K μ W f) (rDs K μ W fs)
section
variable {K : PySem.W.Frag} {μ : Mu} {W : WX} {X : Cx} {f : M D} {fs : List (M D)} {e : Expr} {es : List Expr} {pos : Pos}
theorem d_nil : PA X [] (rDs K μ W []) := pa_nil
theorem d_cons (ha : PE X e (lE K μ W f)) (hr : PA X es (rDs K μ W fs)) (hs : starEach (e :: es) X.env = (false, eval e X.env) :: starEach es X.env := by rfl) : PA X (e :: es) (rDs K μ W (f :: fs)) := pa_cons ha hr hs
theorem evd_go {α : Type} {σ : St} {P : α → En → Hp → Hp → Prop} : ∀ {fs : List (M D)} {ρ : En} {H G : Hp} {k : List D → M α} {Q : List V → Hp → Prop}, Rl K μ σ H ρ G → Post K μ W σ ρ H G (bind (evd fs) k ρ) P →
    (∀ vs ds ρ' H' G', Rl K μ σ H' ρ' G' → Step σ ρ H G σ ρ' H' G' → RpA K G' vs ds → Post K μ W σ ρ' H' G' (k ds ρ') P → Q vs H') → rDs K μ W fs σ H Q
  | [], ρ, H, G, k, Q, R, h, c => c [] [] ρ H G R (.refl _ _ _ _) .nil h
  | f :: fs, ρ, H, G, k, Q, R, h, c => by
    have e : bind (evd (f :: fs)) k = bind f fun d => bind (evd fs) fun ds => k (d :: ds) := by
      show bind (bind f _) k = _
      rw [bind_assoc]
      congr 1
      funext s
      rw [bind_assoc]
      rfl
    rw [e] at h
    refine ⟨ρ, G, R, (Post.bind h).imp fun d ρ1 H1 G1 R1 S1 h1 v p1 => ?_⟩
    refine evd_go R1 h1 fun vs ds ρ2 H2 G2 R2 S2 p2 h2 => ?_
    exact c _ _ ρ2 H2 G2 R2 (S1.trans S2) (.cons (p1.up S2.g) p2) h2
def vTup (fs : List (M D)) : M D := bind (evd fs) fun ds => ret (.tup ds)
def vLst (fs : List (M D)) : M MO := bind (evd fs) fun ds => ret (.lst ds)
theorem evd_len : ∀ {fs : List (M D)} {ρ ρ' : En} {ds : List D}, evd fs ρ = .ok ds ρ' → ds.length = fs.length
  | [], ρ, ρ', ds, h => by cases h; rfl
  | f :: fs, ρ, ρ', ds, h => by
    unfold evd Vi.bind at h
    cases e : f ρ with
    | no => rw [e] at h; cases h
    | ex c ns es r => rw [e] at h; cases h
    | ok d ρ1 =>
      rw [e] at h
      simp only [Vi.bind] at h
      cases e2 : evd fs ρ1 with
      | no => rw [e2] at h; cases h
      | ex c ns es r => rw [e2] at h; cases h
      | ok es ρ2 =>
        rw [e2] at h
        cases h
        rw [List.length_cons, List.length_cons, evd_len e2]
/-- a reading of data carries how many there are -/
theorem evd_go' {α : Type} {σ : St} {P : α → En → Hp → Hp → Prop} {ρ : En} {H G : Hp} {k : List D → M α} {Q : List V → Hp → Prop} (R : Rl K μ σ H ρ G) (h : Post K μ W σ ρ H G (bind (evd fs) k ρ) P)
    (c : ∀ vs ds ρ' H' G', vs.length = fs.length → Rl K μ σ H' ρ' G' → Step σ ρ H G σ ρ' H' G' → RpA K G' vs ds → Post K μ W σ ρ' H' G' (k ds ρ') P → Q vs H') : rDs K μ W fs σ H Q := by
  have h2 : Post K μ W σ ρ H G (bind (evd fs) (fun ds => if ds.length = fs.length then k ds else fun _ => .no) ρ) P := by
    unfold Vi.bind at h ⊢
    cases e : evd fs ρ with
    | ok ds ρ' => rw [e] at h; simp only; rw [if_pos (evd_len e)]; exact h
    | ex c ns es r => rw [e] at h; exact h
    | no => rw [e] at h; exact h
  refine evd_go R h2 fun vs ds ρ' H' G' R' S' r h3 => ?_
  by_cases q : ds.length = fs.length
  · simp only [if_pos q] at h3
    exact c vs ds ρ' H' G' (r.len.trans q) R' S' r h3
  · simp only [if_neg q] at h3
    exact h3.elim
theorem v_tup {x1 : Nat} (h : PA X es (rDs K μ W fs)) (hl : fs.length ≤ sizeLine := by decide) : PE X (.Tuple es x1 pos) (lE K μ W (vTup fs)) := by
  refine PE_of (pe_tup h) fun σ H Q ⟨ρ, G, R, w⟩ => ?_
  refine evd_go' R w fun vs ds ρ' H' G' hn R' S' r h => ⟨by rw [hn]; exact hl, fun p n => ?_⟩
  have al := Alloc.new (u := .tup vs) R'.vis n
  exact Post.alloc R' al h (.ref p) (.tup (SqT.of upd_same) (r.up al.g))
theorem v_lst (h : PA X es (rDs K μ W fs)) (hl : fs.length ≤ sizeLine := by decide) : PE X (.List es pos) (lO K μ W (vLst fs)) := by
  refine PE_of (pe_lst h) fun σ H Q ⟨ρ, G, R, w⟩ => ?_
  refine evd_go' R w fun vs ds ρ' H' G' hn R' S' r h => ⟨by rw [hn]; exact hl, fun p n => ?_⟩
  exact Post.hid (z := .lst ds) R' n (S'.dom p n) ⟨vs, rfl, r⟩ h
end
end Vi

namespace Vi
open PySem PySem.Spec L2

inductive SR where
  | nx (ρ : En) | rt (d : D) (ρ : En) | ro (m : MO) (ρ : En) | bk (ρ : En) | ct (ρ : En) | ex (c : Str) (ns : List Str) (ds : List D) (ρ : En) | no
abbrev VS := En → SR
section
variable (K : PySem.W.Frag) (μ : Mu) (W : WX)
def PostS (σ : St) (ρ : En) (H G : Hp) (r : SR) (Dn : Ends) : Prop := match r with
  | .nx ρ' => ∀ σ' H' G', Rl K μ σ' H' ρ' G' → Step σ ρ H G σ' ρ' H' G' → Dn.nx σ' H'
  | .bk ρ' => ∀ σ' H' G', Rl K μ σ' H' ρ' G' → Step σ ρ H G σ' ρ' H' G' → Dn.bk σ' H'
  | .ct ρ' => ∀ σ' H' G', Rl K μ σ' H' ρ' G' → Step σ ρ H G σ' ρ' H' G' → Dn.ct σ' H'
  | .rt d ρ' => ∀ σ' H' G' v, Rl K μ σ' H' ρ' G' → Step σ ρ H G σ' ρ' H' G' → Rp K G' v d → Dn.rt v H'
  | .ro m ρ' => ∀ σ' H' G' p u, Rl K μ σ' H' ρ' G' → Step σ ρ H G σ' ρ' H' G' → H' p = some u → G' p = none → (∀ i, ¬ ownAt σ' ρ' i p) → H p = none → MOR K G' m u → Dn.rt (.ref p) H'
  | .ex c ns ds ρ' => exOk K μ W σ ρ H G c ns ds ρ'
  | .no => False
def lS (f : VS) : TS := fun Dn σ H => ∃ ρ G, Rl K μ σ H ρ G ∧ PostS K μ W σ ρ H G (f ρ) Dn
end
def sb {α : Type} (f : M α) (k : α → VS) : VS := fun ρ => match f ρ with
  | .ok a ρ' => k a ρ'
  | .ex c ns ds ρ' => .ex c ns ds ρ'
  | .no => .no
section
variable {K : PySem.W.Frag} {μ : Mu} {W : WX} {σ σ1 : St} {ρ ρ1 : En} {H H1 G G1 : Hp} {α : Type} {Dn Dn' : Ends}
theorem PostS.shift {r : SR} (s : Step σ ρ H G σ1 ρ1 H1 G1) (h : PostS K μ W σ ρ H G r Dn) : PostS K μ W σ1 ρ1 H1 G1 r Dn := by
  cases r with
  | nx ρ' => exact fun σ' H' G' R st => h σ' H' G' R (s.trans st)
  | bk ρ' => exact fun σ' H' G' R st => h σ' H' G' R (s.trans st)
  | ct ρ' => exact fun σ' H' G' R st => h σ' H' G' R (s.trans st)
  | rt d ρ' => exact fun σ' H' G' v R st => h σ' H' G' v R (s.trans st)
  | ro m ρ' => exact fun σ' H' G' p u R st a b c n => h σ' H' G' p u R (s.trans st) a b c (s.dom p n)
  | ex c ns ds ρ' => exact exOk.shift s h
  | no => exact h
theorem PostS.bind {f : M α} {k : α → VS} (h : PostS K μ W σ ρ H G (sb f k ρ) Dn) : Post K μ W σ ρ H G (f ρ) fun a ρ' H' G' => PostS K μ W σ ρ' H' G' (k a ρ') Dn := by
  unfold sb at h
  cases e : f ρ with
  | ok a ρ' =>
    rw [e] at h
    exact fun H' G' R st => PostS.shift st h
  | ex c ns ds ρ' => rw [e] at h; exact h
  | no => rw [e] at h; exact h
theorem PostS.nx (R : Rl K μ σ H ρ G) (h : PostS K μ W σ ρ H G (.nx ρ) Dn) : Dn.nx σ H := h σ H G R (.refl _ _ _ _)

theorem getS_set' {i j : Nat} {s : Sl} {ρ : En} : (ρ.set i s)[j]? = if i = j ∧ i < ρ.length then some s else ρ[j]? := by
  by_cases h : i < ρ.length
  · rw [getS_set h]
    by_cases e : i = j
    · rw [if_pos e, if_pos ⟨e, h⟩]
    · rw [if_neg e, if_neg fun z => e z.1]
  · rw [if_neg fun z => h z.2, List.set_eq_of_length_le (by omega)]
theorem ow_set {i j : Nat} {s : Sl} {v : Option V} {b : Addr} (hs : ¬ isOw (some s)) (h : ownAt (σ.set i v) (ρ.set i s) j b) (len : σ.length = ρ.length) : ownAt σ ρ j b := by
  obtain ⟨h1, h2⟩ := h
  rw [getS_set'] at h1
  by_cases e : i = j ∧ i < ρ.length
  · rw [if_pos e] at h1; exact absurd h1 hs
  · rw [if_neg e] at h1
    refine ⟨h1, ?_⟩
    by_cases q : i = j
    · subst q
      rw [List.set_eq_of_length_le (by rw [len]; exact Nat.le_of_not_lt fun z => e ⟨rfl, z⟩)] at h2
      exact h2
    · rw [List.getElem?_set_ne q] at h2; exact h2
theorem Rl.put (R : Rl K μ σ H ρ G) (i : Nat) {v : V} {d : D} (r : Rp K G v d) : Rl K μ (σ.set i (some v)) H (ρ.set i (.dat d)) G ∧ Step σ ρ H G (σ.set i (some v)) (ρ.set i (.dat d)) H G := by
  have ow : ∀ j b, ownAt (σ.set i (some v)) (ρ.set i (.dat d)) j b → ownAt σ ρ j b := fun j b h => ow_set (s := .dat d) (fun z => z) h R.len
  refine ⟨⟨by rw [List.length_set, List.length_set]; exact R.len, fun j s q => ?_, R.vis, fun j k b h1 h2 => R.apart j k b (ow j b h1) (ow k b h2)⟩, ⟨.refl _, fun _ _ h _ => h, fun _ h => h, fun j b h => .inr ⟨j, ow j b h⟩, fun _ _ h => .inl h⟩⟩
  rw [getS_set'] at q
  by_cases e : i = j ∧ i < ρ.length
  · rw [if_pos e] at q
    cases q
    obtain ⟨rfl, hi⟩ := e
    exact ⟨_, List.getElem?_set_self (by rw [R.len]; exact hi), v, rfl, r⟩
  · rw [if_neg e] at q
    obtain ⟨o, h1, h2⟩ := R.slot j s q
    refine ⟨o, ?_, h2⟩
    by_cases z : i = j
    · subst z
      rw [List.set_eq_of_length_le (by rw [R.len]; exact Nat.le_of_not_lt fun z => e ⟨rfl, z⟩)]; exact h1
    · rw [List.getElem?_set_ne z]; exact h1
theorem Rl.putO (R : Rl K μ σ H ρ G) (i : Nat) {p : Addr} {u : HO} {m : MO} (hu : H p = some u) (hg : G p = none) (no : ∀ j, ¬ ownAt σ ρ j p) (r : MOR K G m u) :
    Rl K μ (σ.set i (some (.ref p))) H (ρ.set i (.own m)) G ∧ ∀ j b, ownAt (σ.set i (some (.ref p))) (ρ.set i (.own m)) j b → b = p ∨ ownAt σ ρ j b := by
  have ow : ∀ j b, ownAt (σ.set i (some (.ref p))) (ρ.set i (.own m)) j b → (j = i ∧ b = p) ∨ ownAt σ ρ j b := fun j b ⟨h1, h2⟩ => by
    rw [getS_set'] at h1
    by_cases e : i = j ∧ i < ρ.length
    · obtain ⟨rfl, hi⟩ := e
      rw [List.getElem?_set_self (by rw [R.len]; exact hi)] at h2
      cases h2
      exact .inl ⟨rfl, rfl⟩
    · rw [if_neg e] at h1
      refine .inr ⟨h1, ?_⟩
      by_cases q : i = j
      · subst q
        rw [List.set_eq_of_length_le (by rw [R.len]; exact Nat.le_of_not_lt fun z => e ⟨rfl, z⟩)] at h2
        exact h2
      · rw [List.getElem?_set_ne q] at h2; exact h2
  refine ⟨⟨by rw [List.length_set, List.length_set]; exact R.len, fun j s q => ?_, R.vis, fun j k b h1 h2 => ?_⟩, fun j b h => (ow j b h).imp (fun z => z.2) id⟩
  · rw [getS_set'] at q
    by_cases e : i = j ∧ i < ρ.length
    · rw [if_pos e] at q
      cases q
      obtain ⟨rfl, hi⟩ := e
      exact ⟨_, List.getElem?_set_self (by rw [R.len]; exact hi), p, u, rfl, hu, hg, r⟩
    · rw [if_neg e] at q
      obtain ⟨o, h1, h2⟩ := R.slot j s q
      refine ⟨o, ?_, h2⟩
      by_cases z : i = j
      · subst z
        rw [List.set_eq_of_length_le (by rw [R.len]; exact Nat.le_of_not_lt fun z => e ⟨rfl, z⟩)]; exact h1
      · rw [List.getElem?_set_ne z]; exact h1
  · rcases ow j b h1 with ⟨e1, e2⟩ | e1
    · rcases ow k b h2 with ⟨f1, f2⟩ | f1
      · rw [e1, f1]
      · exact absurd (by rw [← e2]; exact f1) (no k)
    · rcases ow k b h2 with ⟨f1, f2⟩ | f1
      · exact absurd (by rw [← f2]; exact e1) (no j)
      · exact R.apart j k b e1 f1
end

def vSeq (f g : VS) : VS := fun ρ => match f ρ with
  | .nx ρ' => g ρ'
  | r => r
def vNx : VS := fun ρ => .nx ρ
def vSet (i : Nat) (f : M D) : VS := sb f fun d ρ => .nx (ρ.set i (.dat d))
def vSetO (i : Nat) (f : M MO) : VS := sb f fun d ρ => .nx (ρ.set i (.own d))
def vDrop (f : M D) : VS := sb f fun _ ρ => .nx ρ
def vRet (f : M D) : VS := sb f fun d ρ => .rt d ρ
def vRetO (f : M MO) : VS := sb f fun d ρ => .ro d ρ
def vRetN : VS := fun ρ => .rt .non ρ
def vBrk : VS := fun ρ => .bk ρ
def vCnt : VS := fun ρ => .ct ρ
def vIf (c : M Bool) (f g : VS) : VS := sb c fun b => if b = true then f else g
def vPar (i j : Nat) (f g : M D) : VS := sb (evd [f, g]) fun ds ρ => match ds with
  | [d, e] => .nx ((ρ.set i (.dat d)).set j (.dat e))
  | _ => .no
section
variable {K : PySem.W.Frag} {μ : Mu} {W : WX} {X : Cx} {st : Stmt} {rest sa sc : List Stmt} {e ec : Expr} {f g : VS} {fe ge : M D} {fo : M MO} {c : M Bool} {pos : Pos}
theorem s_nil : PSs X [] (lS K μ W vNx) := PSs_of pss_nil fun Dn σ H ⟨ρ, G, R, w⟩ => PostS.nx R w
theorem go_seq {Dn : Ends} {σ : St} {H : Hp} (w : lS K μ W (vSeq f g) Dn σ H) : tSeq (lS K μ W f) (lS K μ W g) Dn σ H := by
  obtain ⟨ρ, G, R, w⟩ := w
  refine ⟨ρ, G, R, ?_⟩
  unfold vSeq at w
  cases ef : f ρ with
  | nx ρ' => rw [ef] at w; exact fun σ' H' G' R' S' => ⟨ρ', G', R', PostS.shift S' w⟩
  | _ => rw [ef] at w; exact w
theorem s_cons (h : PS X st (lS K μ W f)) (h' : PSs X rest (lS K μ W g)) : PSs X (st :: rest) (lS K μ W (vSeq f g)) := PSs_of (pss_cons h h') fun Dn σ H w => go_seq w
theorem s_one (h : PS X st (lS K μ W f)) : PSs X [st] (lS K μ W f) := pss_one h
theorem go_set {i : Nat} {Dn : Ends} {σ : St} {H : Hp} (w : lS K μ W (vSet i fe) Dn σ H) : tAsg (lE K μ W fe) (gName i) Dn σ H := by
  obtain ⟨ρ, G, R, w⟩ := w
  exact ⟨ρ, G, R, (PostS.bind w).imp fun d ρ' H' G' R' S' h v r => let ⟨R2, S2⟩ := R'.put i r; h _ _ _ R2 S2⟩
theorem s_set {i : Nat} {x : Str} {pos' : Pos} (hN : X.N.Nodup) (hi : X.N[i]? = some x) (hx : Loc X.env.scope x) (he : PE X e (lE K μ W fe)) (hs : swapsWith e (some (.Name x pos')) pos.line X.env = pure false := by rfl)
    (hf : X.fn x = true ∨ X.env.scope.names.lookup x = some .local := by first | exact .inl rfl | exact .inr rfl | assumption) : PS X (.Assign [.Name x pos'] e pos) (lS K μ W (vSet i fe)) :=
  PS_of (ps_set hN hi hx he hs hf) fun Dn σ H w => go_set w
theorem go_setO {i : Nat} {Dn : Ends} {σ : St} {H : Hp} (w : lS K μ W (vSetO i fo) Dn σ H) : tAsg (lO K μ W fo) (gName i) Dn σ H := by
  obtain ⟨ρ, G, R, w⟩ := w
  refine ⟨ρ, G, R, ?_⟩
  unfold vSetO sb at w
  cases ef : fo ρ with
  | no => rw [ef] at w; exact w
  | ex c ns ds ρ' => rw [ef] at w; exact w
  | ok m ρ' =>
    rw [ef] at w
    intro H' G' R' S' p u hu hg no n0 r
    obtain ⟨R2, ow⟩ := R'.putO i hu hg no r
    refine w _ _ _ R2 ⟨S'.g, S'.keep, S'.dom, fun j b h => ?_, S'.vis⟩
    rcases ow j b h with z | z
    · exact .inl (by rw [z]; exact n0)
    · exact S'.ow j b z
theorem s_setO {i : Nat} {x : Str} {pos' : Pos} (hN : X.N.Nodup) (hi : X.N[i]? = some x) (hx : Loc X.env.scope x) (he : PE X e (lO K μ W fo)) (hs : swapsWith e (some (.Name x pos')) pos.line X.env = pure false := by rfl)
    (hf : X.fn x = true ∨ X.env.scope.names.lookup x = some .local := by first | exact .inl rfl | exact .inr rfl | assumption) : PS X (.Assign [.Name x pos'] e pos) (lS K μ W (vSetO i fo)) :=
  PS_of (ps_set hN hi hx he hs hf) fun Dn σ H w => go_setO w
theorem s_expr (he : PE X e (lE K μ W fe)) (hs : swapsWith e none pos.line X.env = pure false := by rfl) : PS X (.Expr e pos) (lS K μ W (vDrop fe)) :=
  PS_of (ps_expr he hs) fun Dn σ H ⟨ρ, G, R, w⟩ => ⟨ρ, G, R, (PostS.bind w).imp fun d ρ' H' G' R' S' h v r => PostS.nx R' h⟩
theorem s_ret (he : PE X e (lE K μ W fe)) : PS X (.Return (some e) pos) (lS K μ W (vRet fe)) :=
  PS_of (ps_ret he) fun Dn σ H ⟨ρ, G, R, w⟩ => ⟨ρ, G, R, (PostS.bind w).imp fun d ρ' H' G' R' S' h v r => h σ H' G' v R' (.refl _ _ _ _) r⟩
theorem s_retO (he : PE X e (lO K μ W fo)) : PS X (.Return (some e) pos) (lS K μ W (vRetO fo)) := by
  refine PS_of (ps_ret he) fun Dn σ H ⟨ρ, G, R, w⟩ => ⟨ρ, G, R, ?_⟩
  unfold vRetO sb at w
  cases ef : fo ρ with
  | no => rw [ef] at w; exact w
  | ex c ns ds ρ' => rw [ef] at w; exact w
  | ok m ρ' =>
    rw [ef] at w
    exact fun H' G' R' S' p u hu hg no n0 r => w σ H' G' p u R' S' hu hg no n0 r
theorem s_retN : PS X (.Return none pos) (lS K μ W vRetN) := PS_of ps_retN fun Dn σ H ⟨ρ, G, R, w⟩ => w σ H G .non R (.refl _ _ _ _) .non
theorem s_pass : PS X (.Pass pos) (lS K μ W vNx) := PS_of ps_pass fun Dn σ H ⟨ρ, G, R, w⟩ => PostS.nx R w
theorem s_brk : PS X (.Break pos) (lS K μ W vBrk) := PS_of ps_break fun Dn σ H ⟨ρ, G, R, w⟩ => w σ H G R (.refl _ _ _ _)
theorem s_cnt : PS X (.Continue pos) (lS K μ W vCnt) := PS_of ps_continue fun Dn σ H ⟨ρ, G, R, w⟩ => w σ H G R (.refl _ _ _ _)
theorem s_if (hc : PT X ec (lT K μ W c)) (ha : PSs X sa (lS K μ W f)) (hb : PSs X sc (lS K μ W g)) : PS X (.If ec sa sc pos) (lS K μ W (vIf c f g)) :=
  PS_of (ps_if hc ha hb) fun Dn σ H ⟨ρ, G, R, w⟩ => ⟨ρ, G, R, (PostS.bind w).imp fun b ρ' H' G' R' S' h => by
    cases b with
    | true => exact iteT ⟨ρ', G', R', h⟩
    | false => exact iteF ⟨ρ', G', R', h⟩⟩
theorem s_par {i j : Nat} {x y : Str} {a b : Expr} {px py pt : Pos} {kt k2 : Nat} {pt2 : Pos} (hc : X.calm = true) (hN : X.N.Nodup) (hi : X.N[i]? = some x) (hj : X.N[j]? = some y) (hij : i ≠ j)
    (hx : X.env.scope.names.lookup x = some .local) (hy : X.env.scope.names.lookup y = some .local) (ha : PA X [a, b] (rDs K μ W [fe, ge]))
    (hw : swappedStores [.Tuple [.Name x px, .Name y py] kt pt] (.Tuple [a, b] k2 pt2) X.env = pure (some [x, y]))
    (hs : swapsWithSole [.Tuple [.Name x px, .Name y py] kt pt] (.Tuple [a, b] k2 pt2) pos.line X.env = pure false := by rfl) :
    PS X (.Assign [.Tuple [.Name x px, .Name y py] kt pt] (.Tuple [a, b] k2 pt2) pos) (lS K μ W (vPar i j fe ge)) := by
  refine PS_of (ps_par hc hN hi hj hij hx hy ha hw hs) fun Dn σ H ⟨ρ, G, R, w⟩ => ?_
  have w2 : Post K μ W σ ρ H G (Vi.bind (evd [fe, ge]) (fun ds ρ => Rs.ok ds ρ) ρ) fun ds ρ' H' G' => PostS K μ W σ ρ' H' G' (match ds with | [d, e] => SR.nx ((ρ'.set i (.dat d)).set j (.dat e)) | _ => .no) Dn := by
    have q := PostS.bind w
    unfold Vi.bind
    cases ef : evd [fe, ge] ρ with
    | no => rw [ef] at q; exact q
    | ex c ns ds ρ' => rw [ef] at q; exact q
    | ok ds ρ' => rw [ef] at q; exact q
  refine evd_go R w2 fun vs ds ρ' H' G' R' S' r h => ?_
  have h2 := Post.ret R' h
  cases r with
  | nil => exact h2.elim
  | cons r1 r2 =>
    cases r2 with
    | nil => exact h2.elim
    | cons r3 r4 =>
      cases r4 with
      | cons _ _ => exact h2.elim
      | nil =>
        obtain ⟨R2, S2⟩ := R'.put i r1
        obtain ⟨R3, S3⟩ := R2.put j r3
        exact ⟨_, _, rfl, h2 _ _ _ R3 (S2.trans S3)⟩
end

inductive Tg where
  | nm (i : Nat) | tup (is : List Nat)
def asgs : List Nat → List D → En → Option En
  | [], [], ρ => some ρ
  | i :: is, d :: ds, ρ => asgs is ds (ρ.set i (.dat d))
  | _, _, _ => none
def asgT : Tg → D → En → Option En
  | .nm i, d, ρ => some (ρ.set i (.dat d))
  | .tup is, .tup ds, ρ => asgs is ds ρ
  | _, _, _ => none
def gNames : List Nat → TGs
  | [] => gNil
  | i :: is => gCons (gName i) (gNames is)
def gT (K : PySem.W.Frag) : Tg → TG
  | .nm i => gName i
  | .tup is => gTup K is.length (gNames is)
section
variable {K : PySem.W.Frag} {μ : Mu} {W : WX} {X : Cx}
theorem asgs_len : ∀ {is : List Nat} {ds : List D} {ρ ρ' : En}, asgs is ds ρ = some ρ' → ds.length = is.length
  | [], [], _, _, _ => rfl
  | [], _ :: _, _, _, h => by cases h
  | _ :: _, [], _, _, h => by cases h
  | i :: is, d :: ds, ρ, ρ', h => by
    rw [List.length_cons, List.length_cons, asgs_len (show asgs is ds (ρ.set i (.dat d)) = some ρ' from h)]
theorem asgs_go : ∀ {is : List Nat} {ds : List D} {vs : List V} {σ : St} {ρ ρ' : En} {H G : Hp} {Q : St → Hp → Prop}, Rl K μ σ H ρ G → RpA K G vs ds → asgs is ds ρ = some ρ' → (∀ σ', Rl K μ σ' H ρ' G → Step σ ρ H G σ' ρ' H G → Q σ' H) → gNames is vs σ H Q
  | [], [], vs, σ, ρ, ρ', H, G, Q, R, r, h, q => by
    cases r
    cases h
    exact ⟨rfl, q σ R (.refl _ _ _ _)⟩
  | [], _ :: _, _, _, _, _, _, _, _, _, _, h, _ => by cases h
  | _ :: _, [], _, _, _, _, _, _, _, _, _, h, _ => by cases h
  | i :: is, d :: ds, vs, σ, ρ, ρ', H, G, Q, R, r, h, q => by
    cases r with
    | cons r1 r2 =>
      obtain ⟨R2, S2⟩ := R.put i r1
      exact ⟨_, _, rfl, asgs_go R2 r2 h fun σ' R' S' => q σ' R' (S2.trans S')⟩
theorem asgT_go {tg : Tg} {d : D} {v : V} {σ : St} {ρ ρ' : En} {H G : Hp} {Q : St → Hp → Prop} (R : Rl K μ σ H ρ G) (r : Rp K G v d) (h : asgT tg d ρ = some ρ') (q : ∀ σ', Rl K μ σ' H ρ' G → Step σ ρ H G σ' ρ' H G → Q σ' H) : gT K tg v σ H Q := by
  cases tg with
  | nm i =>
    cases h
    obtain ⟨R2, S2⟩ := R.put i r
    exact q _ R2 S2
  | tup is =>
    cases d with
    | tup ds =>
      cases r with
      | tup hs ra =>
        refine ⟨_, _, rfl, sqT_mono R.vis hs, ?_, asgs_go R ra h q⟩
        rw [ra.len]
        exact asgs_len h
    | _ => cases h
theorem g_nm {i : Nat} {x : Str} {pos : Pos} (hN : X.N.Nodup) (hi : X.N[i]? = some x) (hx : Loc X.env.scope x) (hf : X.fn x = true ∨ X.env.scope.names.lookup x = some .local := by first | exact .inl rfl | exact .inr rfl | assumption) : PG X (.Name x pos) (gT K (.nm i)) := pg_name hN hi hx hf
theorem g_nil : PGs X [] (gNames []) := pgs_nil
theorem g_cons {i : Nat} {is : List Nat} {e : Expr} {es : List Expr} (h1 : PG X e (gT K (.nm i))) (h2 : PGs X es (gNames is)) (hs : (assignEach (e :: es) X.env).map (·.2) = assign e X.env :: (assignEach es X.env).map (·.2) := by rfl) : PGs X (e :: es) (gNames (i :: is)) := pgs_cons h1 h2 hs
theorem g_tup {is : List Nat} {es : List Expr} {k : Nat} {pos : Pos} (hc : X.calm = true) (h : PGs X es (gNames is)) (hn : (assignEach es X.env).length = is.length := by rfl) (hst : (assignEach es X.env).findIdx? (·.1) = none := by rfl) (hK : X.K = K := by rfl) : PG X (.Tuple es k pos) (gT K (.tup is)) := by
  subst hK
  exact pg_tup hc h hn hst
/-- target = value -/
def vAsg (tg : Tg) (f : M D) : VS := sb f fun d ρ => match asgT tg d ρ with
  | some ρ' => .nx ρ'
  | none => .no
theorem s_asg {tg : Tg} {t e : Expr} {f : M D} {pos : Pos} (he : PE X e (lE K μ W f)) (hg : PG X t (gT K tg)) (hs : swapsWithSole [t] e pos.line X.env = pure false := by rfl) (hw : swappedStores [t] e X.env = pure none := by rfl)
    (h1 : (assignEach [t] X.env).map (·.2) = [assign t X.env] := by rfl) : PS X (.Assign [t] e pos) (lS K μ W (vAsg tg f)) := by
  refine PS_of (ps_asg he hg hs hw h1) fun Dn σ H ⟨ρ, G, R, w⟩ => ⟨ρ, G, R, (PostS.bind w).imp fun d ρ' H' G' R' S' h v r => ?_⟩
  cases ea : asgT tg d ρ' with
  | none => simp only [ea] at h; exact h.elim
  | some ρ2 =>
    simp only [ea] at h
    exact asgT_go R' r ea fun σ2 R2 S2 => h σ2 H' G' R2 S2
end

def forD (tg : Tg) (body : VS) : List D → VS
  | [], ρ => .nx ρ
  | d :: ds, ρ => match asgT tg d ρ with
    | none => .no
    | some ρ1 => (match body ρ1 with
      | .nx ρ2 => forD tg body ds ρ2
      | .ct ρ2 => forD tg body ds ρ2
      | .bk ρ2 => .nx ρ2
      | r => r)
def vFor (tg : Tg) (it : M (List D)) (body : VS) : VS := sb it fun ds => forD tg body ds
/-- an iterator gives these data, one after another, as long as what was visible stands -/
structure JOk (K : PySem.W.Frag) (G : Hp) (ds : List D) (J : It) : Prop where
  go : ∀ i H, Same G H → i < ds.length → J.go i H
  stop : ∀ i H, Same G H → ds.length ≤ i → J.stop i H
  yld : ∀ i H x H' d, Same G H → ds[i]? = some d → J.yld i H x H' → ∀ G1, Same G G1 → Same G1 H → ∃ G2, Alloc H G1 H' G2 ∧ Rp K G2 x d
def lI (K : PySem.W.Frag) (μ : Mu) (W : WX) (f : M (List D)) : TI := fun σ H R => ∃ ρ G, Rl K μ σ H ρ G ∧ Post K μ W σ ρ H G (f ρ) fun ds _ H' G' => ∀ J, JOk K G' ds J → R J H'
section
variable {K : PySem.W.Frag} {μ : Mu} {W : WX} {X : Cx} {f : VS} {pos : Pos}
theorem drop_cons {α : Type} {l : List α} {i : Nat} (h : i < l.length) : ∃ a, l[i]? = some a ∧ l.drop i = a :: l.drop (i + 1) := ⟨l[i], by rw [List.getElem?_eq_getElem h], List.drop_eq_getElem_cons h⟩
theorem PI_of {tg it : Expr} {w w' : TI} (h : PI X tg it w) (i : ∀ σ H R, w' σ H R → w σ H R) : PI X tg it w' := ⟨fun pins s σ H R I q => h.run pins s σ H R I (i _ _ _ q)⟩
theorem go_for {tg : Tg} {it : M (List D)} {Dn : Ends} {σ : St} {H : Hp} (w : lS K μ W (vFor tg it f) Dn σ H) : tFor (lI K μ W it) (gT K tg) (lS K μ W f) Dn σ H := by
  obtain ⟨ρ, G, R, w⟩ := w
  refine ⟨ρ, G, R, (PostS.bind w).imp fun ds ρ0 H0 G0 R0 S0 h J ok => ?_⟩
  refine ⟨fun i m σ H => m = ds.length - i ∧ i ≤ ds.length ∧ ∃ ρ G, Rl K μ σ H ρ G ∧ Same G0 G ∧ PostS K μ W σ ρ H G (forD tg f (ds.drop i) ρ) Dn, ⟨ds.length, by simp, Nat.zero_le _, ρ0, G0, R0, .refl _, h⟩, ?_⟩
  rintro i m σ1 H1 ⟨rfl, hi, ρ1, G1, R1, g1, h1⟩
  by_cases hlt : i < ds.length
  · obtain ⟨d, ed, edr⟩ := drop_cons hlt
    refine .inr ⟨ok.go i H1 (g1.trans R1.vis) hlt, fun σ H => ∃ ρ G, Rl K μ σ H ρ G ∧ Same G0 G ∧ PostS K μ W σ ρ H G (forD tg f (ds.drop (i + 1)) ρ) Dn, fun σ' H' q => ⟨ds.length - (i + 1), by omega, rfl, hlt, q⟩, fun x H2 y => ?_⟩
    obtain ⟨G2, al, rx⟩ := ok.yld i H1 x H2 d (g1.trans R1.vis) ed y G1 g1 R1.vis
    have R2 := R1.alloc al
    have h2 := PostS.shift (al.step (σ := σ1) (ρ := ρ1)) h1
    rw [edr] at h2
    unfold forD at h2
    cases ea : asgT tg d ρ1 with
    | none => simp only [ea] at h2; exact h2.elim
    | some ρ2 =>
      simp only [ea] at h2
      refine asgT_go R2 rx ea fun σ2 R3 S3 => ⟨ρ2, G2, R3, ?_⟩
      have g2 : Same G0 G2 := g1.trans al.g
      cases ef : f ρ2 with
      | nx ρ3 => rw [ef] at h2; exact fun σ' H' G' R' S' => ⟨ρ3, G', R', g2.trans S'.g, PostS.shift (S3.trans S') h2⟩
      | ct ρ3 => rw [ef] at h2; exact fun σ' H' G' R' S' => ⟨ρ3, G', R', g2.trans S'.g, PostS.shift (S3.trans S') h2⟩
      | bk ρ3 => rw [ef] at h2; exact fun σ' H' G' R' S' => h2 σ' H' G' R' (S3.trans S')
      | rt d ρ3 => rw [ef] at h2; exact PostS.shift S3 h2
      | ro m ρ3 => rw [ef] at h2; exact PostS.shift (r := .ro m ρ3) S3 h2
      | ex c ns ds ρ3 => rw [ef] at h2; exact exOk.shift S3 h2
      | no => rw [ef] at h2; exact h2.elim
  · have e : i = ds.length := by omega
    subst e
    refine .inl ⟨ok.stop _ H1 (g1.trans R1.vis) (Nat.le_refl _), ?_⟩
    rw [List.drop_length] at h1
    exact PostS.nx R1 h1
theorem s_for {tg : Tg} {t iter : Expr} {body : List Stmt} {it : M (List D)} (hp : PassesOwn (model X.prog X.w) X.A X.env X.xe) (hc : X.calm = true) (hi : PI X t iter (lI K μ W it)) (hg : PG X t (gT K tg)) (hb : PSs X body (lS K μ W f))
    (hs : ∀ x, foldedSetIterable iter X.env x = pure x := by intro _; rfl) : PS X (.For t iter body [] pos) (lS K μ W (vFor tg it f)) :=
  PS_of (ps_for hp hc hi hg hb hs) fun Dn σ H w => go_for w

def whD (c : M Bool) (body : VS) : Nat → VS
  | 0, _ => .no
  | n + 1, ρ => match c ρ with
    | .no => .no
    | .ex c ns ds ρ1 => .ex c ns ds ρ1
    | .ok false ρ1 => .nx ρ1
    | .ok true ρ1 => (match body ρ1 with
      | .nx ρ2 => whD c body n ρ2
      | .ct ρ2 => whD c body n ρ2
      | .bk ρ2 => .nx ρ2
      | r => r)
def vWhile (fuel : En → Nat) (c : M Bool) (body : VS) : VS := fun ρ => whD c body (fuel ρ) ρ
theorem go_while {fuel : En → Nat} {c : M Bool} {Dn : Ends} {σ : St} {H : Hp} (w : lS K μ W (vWhile fuel c f) Dn σ H) : tWhile (lT K μ W c) (lS K μ W f) Dn σ H := by
  obtain ⟨ρ, G, R, w⟩ := w
  refine ⟨fun m σ H => ∃ ρ G, Rl K μ σ H ρ G ∧ PostS K μ W σ ρ H G (whD c f m ρ) Dn, ⟨fuel ρ, ρ, G, R, w⟩, ?_⟩
  rintro m σ1 H1 ⟨ρ1, G1, R1, h1⟩
  cases m with
  | zero => exact h1.elim
  | succ n =>
    refine ⟨ρ1, G1, R1, ?_⟩
    unfold whD at h1
    cases ec : c ρ1 with
    | no => rw [ec] at h1; exact h1
    | ex c ns ds ρ2 => rw [ec] at h1; exact h1
    | ok b ρ2 =>
      rw [ec] at h1
      cases b with
      | false => exact fun H' G' R' S' => iteF (h1 σ1 H' G' R' S')
      | true =>
        intro H2 G2 R2 S2
        refine iteT ⟨fun σ H => ∃ ρ G, Rl K μ σ H ρ G ∧ PostS K μ W σ ρ H G (whD c f n ρ) Dn, fun σ' H' q => ⟨n, Nat.lt_succ_self _, q⟩, ρ2, G2, R2, ?_⟩
        have h2 := PostS.shift S2 h1
        simp only at h2
        cases ef : f ρ2 with
        | nx ρ3 => rw [ef] at h2; exact fun σ' H' G' R' S' => ⟨ρ3, G', R', PostS.shift S' h2⟩
        | ct ρ3 => rw [ef] at h2; exact fun σ' H' G' R' S' => ⟨ρ3, G', R', PostS.shift S' h2⟩
        | bk ρ3 => rw [ef] at h2; exact fun σ' H' G' R' S' => h2 σ' H' G' R' S'
        | rt d ρ3 => rw [ef] at h2; exact h2
        | ro m ρ3 => rw [ef] at h2; exact h2
        | ex c ns ds ρ3 => rw [ef] at h2; exact h2
        | no => rw [ef] at h2; exact h2.elim
theorem s_while {fuel : En → Nat} {c : M Bool} {ec : Expr} {body : List Stmt} (hp : PassesOwn (model X.prog X.w) X.A X.env X.xe) (hc : PT X ec (lT K μ W c)) (hb : PSs X body (lS K μ W f)) : PS X (.While ec body [] pos) (lS K μ W (vWhile fuel c f)) :=
  PS_of (ps_while hp hc hb) fun Dn σ H w => go_while w
end
end Vi

namespace Vi
open PySem PySem.Spec L2

abbrev FN := En → Rs D
abbrev FO := En → Rs MO
def back : En → En → Option En
  | .mu _ :: as, .mu m :: _ => some (.mu m :: as)
  | .mu _ :: _, _ => none
  | as, _ => some as
@[irreducible] def runF (n N : Nat) (b : VS) : FN := fun args => match b (args ++ List.replicate (N - n) .emp) with
  | .nx ρ' => (match back args ρ' with
    | some as => .ok .non as
    | none => .no)
  | .rt d ρ' => (match back args ρ' with
    | some as => .ok d as
    | none => .no)
  | .ex c ns ds ρ' => (match back args ρ' with
    | some as => .ex c ns ds as
    | none => .no)
  | _ => .no
@[irreducible] def runO (n N : Nat) (b : VS) : FO := fun args => match b (args ++ List.replicate (N - n) .emp) with
  | .ro d ρ' => (match back args ρ' with
    | some as => .ok d as
    | none => .no)
  | .ex c ns ds ρ' => (match back args ρ' with
    | some as => .ex c ns ds as
    | none => .no)
  | _ => .no
def ArgOk (args : En) : Prop := ∀ i s, args[i]? = some s → (∃ d, s = .dat d) ∨ (i = 0 ∧ ∃ m, s = .mu m)
def ResOk (K : PySem.W.Frag) (μ : Mu) (vs : List V) (args : En) (H G : Hp) (as : En) (H' G' : Hp) : Prop :=
  Rl K μ (vs.map some) H' as G' ∧ Step (vs.map some) args H G (vs.map some) as H' G'
def exRes (K : PySem.W.Frag) (μ : Mu) (vs : List V) (args : En) (H G : Hp) (c : Str) (ns : List Str) (ds : List D) (as : En) (E : XK) : Prop :=
  ∀ (dd : Addr) (fs : List (Str × V)) (H' G' : Hp), ResOk K μ vs args H G as H' G' → G' dd = some (.xd fs) → fs.map (·.1) = ns → RpA K G' (fs.map (·.2)) ds → E (.ref (He.ga K c)) (some dd) H'
def spF (K : PySem.W.Frag) (n : Nat) (F : FN) : Sp := fun vs H Q E => ∃ (args : En) (G : Hp) (μ : Mu), Rl K μ (vs.map some) H args G ∧ ArgOk args ∧ args.length = n ∧ (match F args with
  | .ok d as => ∀ v H' G', ResOk K μ vs args H G as H' G' → Rp K G' v d → Q v H'
  | .ex c ns ds as => exRes K μ vs args H G c ns ds as E
  | .no => False)
def spO (K : PySem.W.Frag) (n : Nat) (F : FO) : Sp := fun vs H Q E => ∃ (args : En) (G : Hp) (μ : Mu), Rl K μ (vs.map some) H args G ∧ ArgOk args ∧ args.length = n ∧ (match F args with
  | .ok m as => ∀ p u H' G', ResOk K μ vs args H G as H' G' → H' p = some u → G' p = none → H p = none → MOR K G' m u → Q (.ref p) H'
  | .ex c ns ds as => exRes K μ vs args H G c ns ds as E
  | .no => False)

section
variable {K : PySem.W.Frag} {μ : Mu} {W : WX} {vs : List V} {args as : En} {H G H' G' : Hp} {N : List Str} {σ' : St} {ρ' : En}
theorem start_get {i : Nat} (h : i < vs.length) : (L2.start N vs)[i]? = (vs.map some)[i]? := by
  unfold L2.start
  rw [List.getElem?_append_left (by rw [List.length_map]; exact h)]
theorem Rl.start (R : Rl K μ (vs.map some) H args G) (hN : vs.length ≤ N.length) : Rl K μ (L2.start N vs) H (args ++ List.replicate (N.length - args.length) .emp) G ∧ ∀ i b, ownAt (L2.start N vs) (args ++ List.replicate (N.length - args.length) .emp) i b → ownAt (vs.map some) args i b := by
  have hl : vs.length = args.length := by have := R.len; rw [List.length_map] at this; exact this
  have ow : ∀ i b, ownAt (L2.start N vs) (args ++ List.replicate (N.length - args.length) .emp) i b → ownAt (vs.map some) args i b := fun i b ⟨h1, h2⟩ => by
    by_cases hi : i < args.length
    · rw [List.getElem?_append_left hi] at h1
      rw [start_get (by omega)] at h2
      exact ⟨h1, h2⟩
    · rw [List.getElem?_append_right (by omega), List.getElem?_replicate] at h1
      split at h1 <;> exact h1.elim
  refine ⟨⟨?_, fun i s q => ?_, R.vis, fun i j a h1 h2 => R.apart i j a (ow i a h1) (ow j a h2)⟩, ow⟩
  · unfold L2.start
    simp only [List.length_append, List.length_map, List.length_replicate, hl]
  · by_cases hi : i < args.length
    · rw [List.getElem?_append_left hi] at q
      rw [start_get (by omega)]
      exact R.slot i s q
    · rw [List.getElem?_append_right (by omega), List.getElem?_replicate] at q
      split at q
      · rename_i hlt
        cases q
        refine ⟨none, ?_, trivial⟩
        unfold L2.start
        rw [List.getElem?_append_right (by rw [List.length_map]; omega), List.getElem?_replicate, List.length_map, if_pos (by omega)]
      · cases q
theorem back_ok (A : ArgOk args) (R : Rl K μ (vs.map some) H args G) (R' : Rl K μ σ' H' ρ' G') (S : Step (L2.start N vs) (args ++ List.replicate (N.length - args.length) .emp) H G σ' ρ' H' G') (hN : vs.length ≤ N.length) (e : back args ρ' = some as) :
    ResOk K μ vs args H G as H' G' := by
  obtain ⟨R0, ow⟩ := R.start hN
  have S2 : ∀ as' : En, (∀ i b, ownAt (vs.map some) as' i b → ownAt (vs.map some) args i b) → Step (vs.map some) args H G (vs.map some) as' H' G' := fun as' h =>
    ⟨S.g, fun b o hb hn => S.keep b o hb fun i q => hn i (ow i b q), S.dom, fun i b q => .inr ⟨i, h i b q⟩, fun b o q => (S.vis b o q).imp id fun z => z.imp id fun ⟨j, y⟩ => ⟨j, ow j b y⟩⟩
  have datS : ∀ (i : Nat) (s : Sl), args[i]? = some s → (∀ m, s ≠ .mu m) → ∃ o, (vs.map some)[i]? = some o ∧ SlR K μ H' G' s o := fun i s q hs => by
    obtain ⟨o, h1, h2⟩ := R.slot i s q
    refine ⟨o, h1, ?_⟩
    rcases A i s q with ⟨d, rfl⟩ | ⟨_, m, rfl⟩
    · obtain ⟨v, e1, r⟩ := h2
      exact ⟨v, e1, r.up S.g⟩
    · exact absurd rfl (hs m)
  have plain : (∀ m, args[0]? ≠ some (.mu m)) → as = args → ResOk K μ vs args H G as H' G' := fun hm e => by
    subst e
    have nm : ∀ (i : Nat) (s : Sl), as[i]? = some s → ∀ m, s ≠ .mu m := fun i s q m z => by
      subst z
      rcases A i _ q with ⟨d, y⟩ | ⟨rfl, _⟩
      · cases y
      · exact hm m q
    exact ⟨⟨R.len, fun i s q => datS i s q (nm i s q), R'.vis, R.apart⟩, S2 as fun _ _ h => h⟩
  cases args with
  | nil => exact plain (fun m z => by cases z) (by cases e; rfl)
  | cons a0 rest =>
    cases a0 with
    | mu m0 =>
      cases ρ' with
      | nil => cases e
      | cons r0 rr =>
        cases r0 with
        | mu m1 =>
          cases e
          have ow1 : ∀ i b, ownAt (vs.map some) (.mu m1 :: rest) i b → ownAt (vs.map some) (.mu m0 :: rest) i b := fun i b ⟨h1, h2⟩ => by
            cases i with
            | zero => exact ⟨trivial, h2⟩
            | succ i => exact ⟨h1, h2⟩
          obtain ⟨o0, h1, u0, h2, _⟩ := R.slot 0 _ rfl
          obtain ⟨o1, h3, u1, h4, h5, h6, h7⟩ := R'.slot 0 _ rfl
          refine ⟨⟨R.len, fun i s q => ?_, R'.vis, fun i j b h1 h2 => R.apart i j b (ow1 i b h1) (ow1 j b h2)⟩, S2 _ ow1⟩
          cases i with
          | zero =>
            cases q
            exact ⟨o0, h1, u1, h2, h5, h6, h7⟩
          | succ i =>
            refine datS (i + 1) s q fun m z => ?_
            subst z
            rcases A (i + 1) _ q with ⟨d, y⟩ | ⟨y, _⟩
            · cases y
            · cases y
        | _ => cases e
    | emp => exact plain (fun m z => by cases z) (by cases e; rfl)
    | dat d => exact plain (fun m z => by cases z) (by cases e; rfl)
    | own m => exact plain (fun m z => by cases z) (by cases e; rfl)
    | exc c ns ds => exact plain (fun m z => by cases z) (by cases e; rfl)
/-- a def's body keeps the promise -/
theorem body_ok {n : Nat} {b : VS} {Q : VK} {E : XK} (hN : n ≤ N.length) (h : spF K n (runF n N.length b) vs H Q E) : ∃ μ, lS K μ (fun cls d _ H => E cls d H) b { nx := fun _ H' => Q .non H', rt := Q } (L2.start N vs) H := by
  obtain ⟨args, G, μ, R, A, hn, w⟩ := h
  have hl : vs.length = args.length := by have := R.len; rw [List.length_map] at this; exact this
  have hv : vs.length ≤ N.length := by omega
  refine ⟨μ, _, G, (R.start (N := N) hv).1, ?_⟩
  unfold runF at w
  rw [← hn] at w
  cases eb : b (args ++ List.replicate (N.length - args.length) .emp) with
  | nx ρ' =>
    rw [eb] at w
    simp only at w
    cases ek : back args ρ' with
    | none => rw [ek] at w; exact w.elim
    | some as => rw [ek] at w; exact fun σ' H' G' R' S' => w .non H' G' (back_ok A R R' S' hv ek) .non
  | rt d ρ' =>
    rw [eb] at w
    simp only at w
    cases ek : back args ρ' with
    | none => rw [ek] at w; exact w.elim
    | some as => rw [ek] at w; exact fun σ' H' G' v R' S' r => w v H' G' (back_ok A R R' S' hv ek) r
  | ex c ns ds ρ' =>
    rw [eb] at w
    simp only at w
    cases ek : back args ρ' with
    | none => rw [ek] at w; exact w.elim
    | some as => rw [ek] at w; exact fun σ' dd fs H' G' R' S' a b c => w dd fs H' G' (back_ok A R R' S' hv ek) a b c
  | ro m ρ' => rw [eb] at w; exact w.elim
  | bk ρ' => rw [eb] at w; exact w.elim
  | ct ρ' => rw [eb] at w; exact w.elim
  | no => rw [eb] at w; exact w.elim
theorem body_okO {n : Nat} {b : VS} {Q : VK} {E : XK} (hN : n ≤ N.length) (h : spO K n (runO n N.length b) vs H Q E) : ∃ μ, lS K μ (fun cls d _ H => E cls d H) b { nx := fun _ H' => Q .non H', rt := Q } (L2.start N vs) H := by
  obtain ⟨args, G, μ, R, A, hn, w⟩ := h
  have hl : vs.length = args.length := by have := R.len; rw [List.length_map] at this; exact this
  have hv : vs.length ≤ N.length := by omega
  refine ⟨μ, _, G, (R.start (N := N) hv).1, ?_⟩
  unfold runO at w
  rw [← hn] at w
  cases eb : b (args ++ List.replicate (N.length - args.length) .emp) with
  | ro m ρ' =>
    rw [eb] at w
    simp only at w
    cases ek : back args ρ' with
    | none => rw [ek] at w; exact w.elim
    | some as =>
      rw [ek] at w
      intro σ' H' G' p u R' S' hu hg no n0 r
      have B := back_ok A R R' S' hv ek
      exact w p u H' G' B hu hg n0 r
  | ex c ns ds ρ' =>
    rw [eb] at w
    simp only at w
    cases ek : back args ρ' with
    | none => rw [ek] at w; exact w.elim
    | some as => rw [ek] at w; exact fun σ' dd fs H' G' R' S' a b c => w dd fs H' G' (back_ok A R R' S' hv ek) a b c
  | nx ρ' => rw [eb] at w; exact w.elim
  | rt d ρ' => rw [eb] at w; exact w.elim
  | bk ρ' => rw [eb] at w; exact w.elim
  | ct ρ' => rw [eb] at w; exact w.elim
  | no => rw [eb] at w; exact w.elim
end
end Vi

namespace Vi
open PySem PySem.Spec L2

def owM : Sl → Option MO
  | .own m => some m
  | .mu m => some m
  | _ => none
def reM : Sl → MO → Sl
  | .own _, m => .own m
  | .mu _, m => .mu m
  | s, _ => s
section
variable {K : PySem.W.Frag} {μ : Mu} {W : WX} {σ : St} {ρ : En} {H G H' G' : Hp}
theorem Rl.atOw (R : Rl K μ σ H ρ G) {i : Nat} {s : Sl} {m : MO} (e : ρ[i]? = some s) (em : owM s = some m) : ∃ a u, σ[i]? = some (some (.ref a)) ∧ H a = some u ∧ G a = none ∧ MOR K G m u ∧ ownAt σ ρ i a := by
  obtain ⟨o, h1, h2⟩ := R.slot i s e
  cases s with
  | own m' =>
    cases em
    obtain ⟨a, u, rfl, h3, h4, h5⟩ := h2
    exact ⟨a, u, h1, h3, h4, h5, by rw [ownAt, e]; exact ⟨trivial, h1⟩⟩
  | mu m' =>
    cases em
    obtain ⟨u, rfl, h3, h4, h5⟩ := h2
    exact ⟨_, u, h1, h3, h4, h5, by rw [ownAt, e]; exact ⟨trivial, h1⟩⟩
  | _ => cases em
/-- the thing in slot i has changed, all else stands -/
theorem Rl.change (R : Rl K μ σ H ρ G) {i : Nat} {s : Sl} {m m' : MO} {a : Addr} {u' : HO} (e : ρ[i]? = some s) (em : owM s = some m) (ow : ownAt σ ρ i a)
    (hg : Same G G') (hk : ∀ b o, b ≠ a → H b = some o → H' b = some o) (hv : Same G' H') (hn : ∀ b o, G' b = some o → G b = some o ∨ H b = none) (ha : G' a = none) (hu : H' a = some u') (r : MOR K G' m' u') :
    Rl K μ σ H' (ρ.set i (reM s m')) G' ∧ Step σ ρ H G σ (ρ.set i (reM s m')) H' G' := by
  have hi := lt_of_get e
  have isO : isOw (some (reM s m')) := by cases s <;> first | trivial | cases em
  have ow1 : ∀ j b, ownAt σ (ρ.set i (reM s m')) j b → ownAt σ ρ j b := fun j b ⟨h1, h2⟩ => by
    refine ⟨?_, h2⟩
    rw [getS_set hi] at h1
    by_cases z : i = j
    · subst z; exact ow.1
    · rw [if_neg z] at h1; exact h1
  refine ⟨⟨by rw [List.length_set]; exact R.len, fun j t q => ?_, hv, fun j k b h1 h2 => R.apart j k b (ow1 j b h1) (ow1 k b h2)⟩, ⟨hg, fun b o h n => ?_, fun b h => ?_, fun j b h => .inr ⟨j, ow1 j b h⟩, fun b o h => (hn b o h).imp id .inl⟩⟩
  · rw [getS_set hi] at q
    by_cases z : i = j
    · rw [if_pos z] at q
      cases q
      subst z
      obtain ⟨o, h1, h2⟩ := R.slot i s e
      have h3 := ow.2
      rw [h1] at h3
      cases h3
      refine ⟨_, h1, ?_⟩
      cases s with
      | own m0 => exact ⟨a, u', rfl, hu, ha, r⟩
      | mu m0 => obtain ⟨u0, y, _⟩ := h2; cases y; exact ⟨u', rfl, hu, ha, r⟩
      | _ => cases em
    · rw [if_neg z] at q
      obtain ⟨o, h1, h2⟩ := R.slot j t q
      refine ⟨o, h1, ?_⟩
      have ne : ∀ {b : Addr}, ownAt σ ρ j b → b ≠ a := fun {b} ob y => z (R.apart i j a ow (by rw [← y]; exact ob))
      have nn : ∀ {b : Addr} {v : HO}, H b = some v → G b = none → G' b = none := fun {b v} h n => by
        cases y : G' b with
        | none => rfl
        | some x =>
          rcases hn b x y with y | y
          · rw [n] at y; cases y
          · rw [h] at y; cases y
      cases t with
      | emp => trivial
      | dat d => obtain ⟨v, e1, r1⟩ := h2; exact ⟨v, e1, r1.up hg⟩
      | own m0 => obtain ⟨b, v, e1, e2, e3, r1⟩ := h2; exact ⟨b, v, e1, hk b v (ne ⟨by rw [q]; trivial, by rw [h1, e1]⟩) e2, nn e2 e3, r1.up hg⟩
      | mu m0 => obtain ⟨v, e1, e2, e3, r1⟩ := h2; exact ⟨v, e1, hk _ v (ne ⟨by rw [q]; trivial, by rw [h1, e1]⟩) e2, nn e2 e3, r1.up hg⟩
      | exc c ns ds => obtain ⟨e1, e2, dd, fs, e3, e4, e5, r1⟩ := h2; exact ⟨e1, e2, dd, fs, e3, hg _ _ e4, e5, r1.up hg⟩
  · exact hk b o (fun z => n i (z ▸ ow)) h
  · by_cases z : b = a
    · rw [z, hu] at h; cases h
    · cases y : H b with
      | none => rfl
      | some o => rw [hk b o z y] at h; cases h
theorem Rl.write (R : Rl K μ σ H ρ G) {i : Nat} {s : Sl} {m m' : MO} {a : Addr} {u' : HO} (e : ρ[i]? = some s) (em : owM s = some m) (ow : ownAt σ ρ i a) (ha : G a = none) (r : MOR K G m' u') :
    Rl K μ σ (upd H a u') (ρ.set i (reM s m')) G ∧ Step σ ρ H G σ (ρ.set i (reM s m')) (upd H a u') G :=
  R.change e em ow (.refl _) (fun b o z h => by rw [upd_ne z]; exact h) (fun b o h => by rw [upd_ne fun z => by rw [z, ha] at h; cases h]; exact R.vis b o h) (fun _ _ h => .inl h) ha upd_same r
end

def owS (ρ : En) (i : Nat) : Option MO := match ρ[i]? with
  | some s => owM s
  | none => none
def putM (ρ : En) (i : Nat) (m : MO) : En := match ρ[i]? with
  | some s => ρ.set i (reM s m)
  | none => ρ
theorem owS_at {ρ : En} {i : Nat} {m : MO} (h : owS ρ i = some m) : ∃ s, ρ[i]? = some s ∧ owM s = some m ∧ ∀ m', putM ρ i m' = ρ.set i (reM s m') := by
  unfold owS at h
  cases e : ρ[i]? with
  | none => rw [e] at h; cases h
  | some s =>
    rw [e] at h
    exact ⟨s, rfl, h, fun m' => by unfold putM; rw [e]⟩
def isLst (ρ : En) (i : Nat) : Bool := match owS ρ i with
  | some (.lst _) => true
  | _ => false
def vApp (i : Nat) (f : M D) : VS := fun ρ => if isLst ρ i = true then sb f (fun d ρ1 => match owS ρ1 i with
  | some (.lst ds) => if ds.length < sizeLine then .nx (putM ρ1 i (.lst (ds ++ [d]))) else .no
  | _ => .no) ρ else .no
def vPop (i : Nat) : M D := fun ρ => match owS ρ i with
  | some (.lst ds) => (match ds.getLast? with
    | some d => .ok d (putM ρ i (.lst ds.dropLast))
    | none => .no)
  | _ => .no
def vPut (i : Nat) (fx fv : M D) : VS := sb fv fun d ρ0 => if isLst ρ0 i = true then sb fx (fun k ρ1 => match k, owS ρ1 i with
  | .int k, some (.lst ds) => (match ixN ds.length k with
    | some j => .nx (putM ρ1 i (.lst (ds.set j d)))
    | none => .no)
  | _, _ => .no) ρ0 else .no
section
variable {K : PySem.W.Frag} {μ : Mu} {W : WX} {X : Cx} {σ : St} {ρ : En} {H G : Hp}
theorem Rl.atLst (R : Rl K μ σ H ρ G) {i : Nat} (h : isLst ρ i = true) : ∃ a vs, σ[i]? = some (some (.ref a)) ∧ H a = some (.lst vs) := by
  unfold isLst at h
  cases e : owS ρ i with
  | none => rw [e] at h; cases h
  | some m =>
    rw [e] at h
    obtain ⟨s, e1, e2, _⟩ := owS_at e
    obtain ⟨a, u, h1, h2, h3, h4, h5⟩ := R.atOw e1 e2
    cases m with
    | lst ds => obtain ⟨vs, rfl, _⟩ := h4; exact ⟨a, vs, h1, h2⟩
    | dic _ _ => cases h
    | ins _ _ _ => cases h
theorem s_app {i : Nat} {o e : Expr} {f : M D} {p apos cpos : Pos} (ho : PE X o (tVar i)) (he : PE X e (lE K μ W f))
    (hs : swapsWith (.Call (.Attribute o "append" apos) [e] [] cpos) none p.line X.env = pure false := by rfl)
    (hbase : attributeBase o "append" X.env (eval o X.env) = eval o X.env := by rfl)
    (hfew : ((backTo cpos (starEach [e] X.env)).all (fun x => !x.1) && (backToKw cpos (keywordEach [] X.env)).all (fun x => x.1.isSome) && decide (([e] : List Expr).length + ([] : List Keyword).length + (if ([] : List Keyword).isEmpty then 0 else 1) < 30)) = true := by rfl)
    (hline : (apos.endLine == cpos.line) = true := by rfl) (hst : starEach [e] X.env = (false, eval e X.env) :: starEach [] X.env := by rfl) (hplain : (backTo cpos (starEach [] X.env)).any (·.1) = false := by rfl) :
    PS X (.Expr (.Call (.Attribute o "append" apos) [e] [] cpos) p) (lS K μ W (vApp i f)) := by
  refine PS_of (ps_expr (pe_bm PySem.F.plainAttrs_list PySem.F.slot_list_append PySem.F.type_list_append mt_append ho (pa_cons he pa_nil hst) hbase hfew hline hst hplain) hs) fun Dn σ H ⟨ρ, G, R, w⟩ => ?_
  unfold vApp at w
  by_cases hl : isLst ρ i = true
  · rw [if_pos hl] at w
    obtain ⟨a, vs, h1, h2⟩ := R.atLst hl
    refine ⟨.ref a, h1, .inl ⟨rfl, vs, SqL.of h2⟩, ρ, G, R, (PostS.bind w).imp fun d ρ1 H1 G1 R1 S1 h v r => ?_⟩
    cases e1 : owS ρ1 i with
    | none => simp only [e1] at h; exact h.elim
    | some m =>
      cases m with
      | lst ds =>
        simp only [e1] at h
        by_cases hz : ds.length < sizeLine
        · rw [if_pos hz] at h
          obtain ⟨s, e2, e3, e4⟩ := owS_at e1
          obtain ⟨a', u, k1, k2, k3, ⟨ws, rfl, k4⟩, k5⟩ := R1.atOw e2 e3
          rw [h1] at k1
          cases k1
          rw [e4] at h
          obtain ⟨R2, S2⟩ := R1.write (m' := .lst (ds ++ [d])) e2 e3 k5 k3 ⟨ws ++ [v], rfl, k4.append (.one r)⟩
          exact ⟨a, ws, v, rfl, rfl, k2, by rw [k4.len]; exact hz, h _ _ _ R2 S2⟩
        · rw [if_neg hz] at h; exact h.elim
      | dic _ _ => simp only [e1] at h; exact h.elim
      | ins _ _ _ => simp only [e1] at h; exact h.elim
  · rw [if_neg hl] at w; exact w.elim
theorem v_pop {i : Nat} {o : Expr} {apos cpos : Pos} (ho : PE X o (tVar i)) (hbase : attributeBase o "pop" X.env (eval o X.env) = eval o X.env := by rfl) (hline : (apos.endLine == cpos.line) = true := by rfl) :
    PE X (.Call (.Attribute o "pop" apos) [] [] cpos) (lE K μ W (vPop i)) := by
  refine PE_of (pe_bm0 PySem.F.plainAttrs_list PySem.F.slot_list_pop PySem.F.type_list_pop mt_pop ho hbase hline) fun σ H Q ⟨ρ, G, R, w⟩ => ?_
  unfold vPop at w
  cases e1 : owS ρ i with
  | none => simp only [e1] at w; exact w.elim
  | some m =>
    cases m with
    | lst ds =>
      simp only [e1] at w
      cases eg : ds.getLast? with
      | none => simp only [eg] at w; exact w.elim
      | some d =>
        simp only [eg] at w
        obtain ⟨s, e2, e3, e4⟩ := owS_at e1
        obtain ⟨a, u, k1, k2, k3, ⟨ws, rfl, k4⟩, k5⟩ := R.atOw e2 e3
        rw [e4] at w
        have eg2 : ds[ds.length - 1]? = some d := by rw [← List.getLast?_eq_getElem?]; exact eg
        obtain ⟨v, hv, rv⟩ := k4.get eg2
        obtain ⟨R2, S2⟩ := R.write (m' := .lst ds.dropLast) e2 e3 k5 k3 ⟨ws.dropLast, rfl, k4.dropLast⟩
        exact ⟨.ref a, k1, .inl ⟨rfl, ws, SqL.of k2⟩, a, ws, v, rfl, rfl, k2, by rw [k4.len]; exact hv, w _ _ R2 S2 v rv⟩
    | dic _ _ => simp only [e1] at w; exact w.elim
    | ins _ _ _ => simp only [e1] at w; exact w.elim
theorem s_put {i : Nat} {o ix e : Expr} {fx fv : M D} {p sp : Pos} (ho : PE X o (tVar i)) (hi : PE X ix (lE K μ W fx)) (he : PE X e (lE K μ W fv))
    (ha : ∀ v, assign (.Subscript o ix sp) X.env v = (do
      let ov ← holding [v] (eval o X.env)
      let iv ← holding [v, ov] (eval ix X.env)
      standAt sp
      holding [v, ov, iv] (setItem ov iv v)
      release [v, ov, iv] []) := by intro _; rfl)
    (hs : swapsWithSole [.Subscript o ix sp] e p.line X.env = pure false := by rfl) (hw : swappedStores [.Subscript o ix sp] e X.env = pure none := by rfl)
    (h1 : (assignEach [.Subscript o ix sp] X.env).map (·.2) = [assign (.Subscript o ix sp) X.env] := by rfl) :
    PS X (.Assign [.Subscript o ix sp] e p) (lS K μ W (vPut i fx fv)) := by
  refine PS_of (ps_asg he (pg_sub ho hi set_list ha) hs hw h1) fun Dn σ H ⟨ρ, G, R, w⟩ => ⟨ρ, G, R, (PostS.bind w).imp fun d ρ0 H0 G0 R0 S0 h v r => ?_⟩
  by_cases hl : isLst ρ0 i = true
  · simp only [if_pos hl] at h
    obtain ⟨a, vs, k1, k2⟩ := R0.atLst hl
    refine ⟨.ref a, k1, ρ0, G0, R0, (PostS.bind h).imp fun k ρ1 H1 G1 R1 S1 h2 x rx => ?_⟩
    cases k with
    | int k =>
      cases rx
      cases e1 : owS ρ1 i with
      | none => simp only [e1] at h2; exact h2.elim
      | some m =>
        cases m with
        | lst ds =>
          simp only [e1] at h2
          cases ej : ixN ds.length k with
          | none => simp only [ej] at h2; exact h2.elim
          | some j =>
            simp only [ej] at h2
            obtain ⟨s, e2, e3, e4⟩ := owS_at e1
            obtain ⟨a', u, l1, l2, l3, ⟨ws, rfl, l4⟩, l5⟩ := R1.atOw e2 e3
            rw [k1] at l1
            cases l1
            rw [e4] at h2
            obtain ⟨R2, S2⟩ := R1.write (m' := .lst (ds.set j d)) e2 e3 l5 l3 ⟨ws.set j v, rfl, RpA.set (r.up S1.g) j l4⟩
            exact ⟨a, ws, k, j, rfl, rfl, l2, by rw [l4.len]; exact ej, h2 _ _ _ R2 S2⟩
        | dic _ _ => simp only [e1] at h2; exact h2.elim
        | ins _ _ _ => simp only [e1] at h2; exact h2.elim
    | _ => exact h2.elim
  · simp only [if_neg hl] at h; exact h.elim
end

def vCall (F : FN) (fs : List (M D)) : M D := bind (evd fs) fun ds ρ => match F (ds.map .dat) with
  | .ok d _ => .ok d ρ
  | .ex c ns es _ => .ex c ns es ρ
  | .no => .no
def vCallO (F : FO) (fs : List (M D)) : M MO := bind (evd fs) fun ds ρ => match F (ds.map .dat) with
  | .ok d _ => .ok d ρ
  | .ex c ns es _ => .ex c ns es ρ
  | .no => .no
def vCallM (F : FN) (i : Nat) (fs : List (M D)) : M D := fun ρ0 => match owS ρ0 i with
  | none => .no
  | some _ => bind (evd fs) (fun ds ρ => match owS ρ i with
    | none => .no
    | some m => (match F (.mu m :: ds.map .dat) with
      | .ok d (.mu m' :: _) => .ok d (putM ρ i m')
      | .ex c ns es (.mu m' :: _) => .ex c ns es (putM ρ i m')
      | _ => .no)) ρ0
section
variable {K : PySem.W.Frag} {μ : Mu} {W : WX} {X : Cx} {σ : St} {ρ : En} {H G H' G' : Hp}
theorem dat_no {ds : List D} {vs : List V} {i : Nat} {b : Addr} : ¬ ownAt (vs.map some) (ds.map Sl.dat) i b := fun ⟨h, _⟩ => by
  rw [List.getElem?_map] at h
  cases e : ds[i]? with
  | none => rw [e] at h; exact h
  | some d => rw [e] at h; exact h
theorem Rl.args {vs : List V} {ds : List D} (μ : Mu) (r : RpA K G vs ds) (v : Same G H) : Rl K μ (vs.map some) H (ds.map .dat) G := by
  refine ⟨by rw [List.length_map, List.length_map]; exact r.len, fun i s q => ?_, v, fun i j a h => absurd h dat_no⟩
  rw [List.getElem?_map] at q
  cases e : ds[i]? with
  | none => rw [e] at q; cases q
  | some d =>
    rw [e] at q
    cases q
    obtain ⟨v, h1, h2⟩ := r.get e
    exact ⟨some v, by rw [List.getElem?_map, h1]; rfl, v, rfl, h2⟩
theorem dat_all {ds : List D} {i : Nat} {s : Sl} (q : (ds.map Sl.dat)[i]? = some s) : ∃ d, s = .dat d := by
  rw [List.getElem?_map] at q
  cases e : ds[i]? with
  | none => rw [e] at q; cases q
  | some d => rw [e] at q; cases q; exact ⟨d, rfl⟩
theorem argOk_dat (ds : List D) : ArgOk (ds.map .dat) := fun i s q => .inl (dat_all q)
theorem argOk_mu (m : MO) (ds : List D) : ArgOk (.mu m :: ds.map .dat) := fun i s q => by
  cases i with
  | zero => cases q; exact .inr ⟨rfl, m, rfl⟩
  | succ i => exact .inl (dat_all (i := i) q)
theorem ResOk.alloc {vs : List V} {ds : List D} {as : En} (h : ResOk K μ vs (ds.map .dat) H G as H' G') : Alloc H G H' G' :=
  ⟨fun b o q => h.2.keep b o q fun i => dat_no, h.2.g, h.1.vis, fun b o q => (h.2.vis b o q).imp id fun z => z.elim id fun ⟨j, y⟩ => absurd y dat_no⟩
theorem go_call {n : Nat} {F : FN} {fs : List (M D)} {Q : VK} (hn : fs.length = n) (w : lE K μ W (vCall F fs) σ H Q) : rDs K μ W fs σ H fun vs H1 => spF K n F vs H1 Q fun cls d H => W cls d σ H := by
  obtain ⟨ρ, G, R, w⟩ := w
  refine evd_go' R w fun vs ds ρ1 H1 G1 hl R1 S1 r h => ⟨ds.map .dat, G1, μ, Rl.args μ r R1.vis, argOk_dat ds, by rw [List.length_map, ← r.len, hl, hn], ?_⟩
  cases ef : F (ds.map .dat) with
  | no => simp only [ef] at h; exact h.elim
  | ok d as => simp only [ef] at h; exact fun v H' G' B rv => Post.alloc R1 B.alloc h v rv
  | ex c ns es as =>
    simp only [ef] at h
    exact fun dd fs H' G' B a b c => h σ dd fs H' G' (R1.alloc B.alloc) B.alloc.step a b c
theorem go_callO {n : Nat} {F : FO} {fs : List (M D)} {Q : VK} (hn : fs.length = n) (w : lO K μ W (vCallO F fs) σ H Q) : rDs K μ W fs σ H fun vs H1 => spO K n F vs H1 Q fun cls d H => W cls d σ H := by
  obtain ⟨ρ, G, R, w⟩ := w
  refine evd_go' R w fun vs ds ρ1 H1 G1 hl R1 S1 r h => ⟨ds.map .dat, G1, μ, Rl.args μ r R1.vis, argOk_dat ds, by rw [List.length_map, ← r.len, hl, hn], ?_⟩
  cases ef : F (ds.map .dat) with
  | no => simp only [ef] at h; exact h.elim
  | ok d as =>
    simp only [ef] at h
    exact fun p u H' G' B hu hg n0 r => Post.alloc R1 B.alloc h p u hu hg (no_own R1 n0) (S1.dom p n0) r
  | ex c ns es as =>
    simp only [ef] at h
    exact fun dd fs H' G' B a b c => h σ dd fs H' G' (R1.alloc B.alloc) B.alloc.step a b c
theorem go_callM {n i : Nat} {F : FN} {fs : List (M D)} {Q : VK} (hn : fs.length + 1 = n) (w : lE K μ W (vCallM F i fs) σ H Q) : tCons (tVar i) (rDs K μ W fs) σ H fun vs H1 => spF K n F vs H1 Q fun cls d H => W cls d σ H := by
  obtain ⟨ρ, G, R, w⟩ := w
  unfold vCallM at w
  cases e0 : owS ρ i with
  | none => simp only [e0] at w; exact w.elim
  | some m0 =>
    simp only [e0] at w
    obtain ⟨s0, f1, f2, _⟩ := owS_at e0
    obtain ⟨a, u0, g1, _⟩ := R.atOw f1 f2
    refine ⟨.ref a, g1, evd_go' R w fun vs ds ρ1 H1 G1 hl R1 S1 r h => ?_⟩
    cases e1 : owS ρ1 i with
    | none => simp only [e1] at h; exact h.elim
    | some m =>
      simp only [e1] at h
      obtain ⟨s, e2, e3, e4⟩ := owS_at e1
      obtain ⟨a', u, k1, k2, k3, k4, k5⟩ := R1.atOw e2 e3
      rw [g1] at k1
      cases k1
      have args : Rl K ⟨a, a, .none, none⟩ ((V.ref a :: vs).map some) H1 (.mu m :: ds.map .dat) G1 := by
        have R2 := Rl.args ⟨a, a, .none, none⟩ r R1.vis
        have z : ∀ j b, ownAt ((V.ref a :: vs).map some) (.mu m :: ds.map .dat) j b → j = 0 := fun j b q => by
          cases j with
          | zero => rfl
          | succ j => exact absurd (show ownAt (vs.map some) (ds.map .dat) j b from q) dat_no
        refine ⟨congrArg (· + 1) R2.len, fun j t q => ?_, R1.vis, fun j k b h1 h2 => by rw [z j b h1, z k b h2]⟩
        cases j with
        | zero => cases q; exact ⟨_, rfl, u, rfl, k2, k3, k4⟩
        | succ j => exact R2.slot j t q
      have ow0 : ∀ j b, ownAt ((V.ref a :: vs).map some) (.mu m :: ds.map .dat) j b → b = a := fun j b q => by
        cases j with
        | zero => have := q.2; cases this; rfl
        | succ j => exact absurd (show ownAt (vs.map some) (ds.map .dat) j b from q) dat_no
      refine ⟨.mu m :: ds.map .dat, G1, ⟨a, a, .none, none⟩, args, argOk_mu m ds, by rw [List.length_cons, List.length_map, ← r.len, hl, hn], ?_⟩
      have fin : ∀ (as : En) (m' : MO) (rest : En) (H' G' : Hp), as = .mu m' :: rest → ResOk K ⟨a, a, .none, none⟩ (V.ref a :: vs) (.mu m :: ds.map .dat) H1 G1 as H' G' → Rl K μ σ H' (putM ρ1 i m') G' ∧ Step σ ρ1 H1 G1 σ (putM ρ1 i m') H' G' := fun as m' rest H' G' e B => by
        subst e
        obtain ⟨o, l1, u', l2, l3, l4, l5⟩ := B.1.slot 0 _ rfl
        rw [e4]
        exact R1.change (m' := m') e2 e3 k5 B.2.g (fun b o z hb => B.2.keep b o hb fun j q => z (ow0 j b q)) B.1.vis
          (fun b o q => (B.2.vis b o q).imp id fun z => z.elim id fun ⟨j, y⟩ => by
            have eb := ow0 j b y
            subst eb
            rw [l4] at q
            cases q) l4 l3 l5
      cases ef : F (.mu m :: ds.map .dat) with
      | no => simp only [ef] at h; exact h.elim
      | ok d as =>
        simp only [ef] at h
        cases as with
        | nil => exact h.elim
        | cons t rest =>
          cases t with
          | mu m' =>
            exact fun v H' G' B rv => let ⟨R2, S2⟩ := fin _ m' rest H' G' rfl B; h H' G' R2 S2 v rv
          | _ => exact h.elim
      | ex c ns es as =>
        simp only [ef] at h
        cases as with
        | nil => exact h.elim
        | cons t rest =>
          cases t with
          | mu m' =>
            exact fun dd fs H' G' B x y z => let ⟨R2, S2⟩ := fin _ m' rest H' G' rfl B; h σ dd fs H' G' R2 S2 x y z
          | _ => exact h.elim
end
end Vi

namespace Vi
open PySem PySem.Spec L2
structure RoomG (k : Nat) (A : Around) : Prop where
  r : Room k A
  g : A.guards = some []
theorem RoomG.mono {j k : Nat} {A : Around} (h : RoomG k A) (e : j ≤ k) : RoomG j A := ⟨h.r.mono e, h.g⟩
structure FnG (P : Program) (w : World) (K : PySem.W.Frag) (mg : Str → Option Value) (base : Heap) (CX : CXT) (k : Nat) (f : Addr) (fd : FuncData) (ps : List Str) (sp : Sp) : Prop where
  len : ∀ vs H Q E, sp vs H Q E → vs.length = ps.length
  run : ∀ (A : Around) (outer : List Env) (s : Shared) (H : Hp) (args : Args) (us : List Value) (vs : List V) (Q : VK) (E : XK), RoomG k A → Env0 P w K mg base A outer s H → BindsTo s fd args (ps.zip us) → Vals vs us → sp vs H Q E →
    codeAny (model P w) A (.call (.ref f) args) (CR CX outer P w H s Q E) s
section
variable {P : Program} {w : World} {K : PySem.W.Frag} {mg : Str → Option Value} {base : Heap} {CX : CXT} {k : Nat} {x qual : Str} {params : Arguments} {body : List Stmt} {scope : Scope} {dvs : List V} {kws : List (Str × V)} {f : Addr} {fd : FuncData} {N ps : List Str} {sp : Sp}
theorem fnG_of (F : FunD K x qual params body scope dvs kws f fd) (S : FnScope N ps scope) (len : ∀ vs H Q E, sp vs H Q E → vs.length = ps.length)
    (hbody : ∀ (cdv : Value) (A : Around) (outer : List Env) (s : Shared) (H : Hp) (vs : List V) (Q : VK) (E : XK), RoomG k (A.deeper (PyProof.Rows.envOfC qual scope s.heap.objs.size f cdv)) → sp vs H Q E →
      ∃ t, PSs (cxOf CX P w K mg base N qual scope f cdv A outer s H E) body t ∧ t { nx := fun _ H' => Q .non H', rt := Q } (start N vs) H) : FnG P w K mg base CX (k + 1) f fd ps sp := by
  obtain ⟨oc, od, dV, kV, doc, pm, an, cdv, ct, osl, rfl, lk, hcd, _, _⟩ := F.ex
  refine ⟨len, fun A outer s H args us vs Q E hr e0 hb r hsp => ?_⟩
  have keepB : ∀ b o, base.get? b = some o → s.heap.get? b = some o := fun b o e => (e0.bs b o e).1
  have KX : K.In s.heap := e0.mod.kin.keeps keepB
  have kinds : ∀ y ∈ ps.zip us, scope.names.lookup y.1 = some .local ∨ (scope.names.lookup y.1 = some .cell ∧ ((cellsFrom (s.heap.objs.size + 1) scope.names []).lookup y.1).isSome = true) := fun ⟨n, v⟩ hy =>
    (S.par n (List.of_mem_zip hy).1).imp id fun q => ⟨q, PySem.W.cellsFrom_some _ _ _ (.inl q)⟩
  refine codeAny_call_function hr.r.depth (KX _ _ lk) rfl S.co S.gen rfl (PySem.W.codeRec_of KX hcd) (hb _ _ _ _ (wpAny_newFunctionEnv_cells S.kind kinds fun env he s1 x => ?_))
  subst he
  refine ⟨(e0.mod.nolimit.keeps keepB).keeps x.toInCall.keep, codeAny_func ?_⟩
  obtain ⟨t, ht, hq⟩ := hbody cdv A outer s H vs Q E ⟨hr.r.deeper _, hr.g⟩ hsp
  refine wpAny_mono (ht.run [] s1 (start N vs) H _ (inv_start S hr.r.hd e0 (len _ _ _ _ hsp) r x) hq) (fun fl s' hs => ?_) fun _ _ hs => hs
  cases fl with
  | ret u =>
    obtain ⟨v, σ', H', J, rv, q⟩ := hs
    exact ⟨v, H', J.os, J.bare, J.base, J.hok, rv, q⟩
  | next =>
    obtain ⟨σ', H', J, q⟩ := hs
    exact ⟨V.non, H', J.os, J.bare, J.base, J.hok, rfl, q⟩
  | brk => exact hs.elim fun _ z => z.elim fun _ y => False.elim y.2
  | cont => exact hs.elim fun _ z => z.elim fun _ y => False.elim y.2
end
section
variable {X : Cx} {k : Nat} {f : Addr} {fd : FuncData} {ps : List Str} {sp : Sp} {E : St → XK} {x : Str} {p pos : Pos} {e : Expr} {es : List Expr} {t : TA}
theorem pe_callG (F : FnG X.prog X.w X.K X.mg X.base (L2.CX X.prog X.w) k f fd ps sp) (hr : RoomG k X.A) (hg : Gl X x) (hm : X.mg x = some (.ref f)) (hk : PySem.W.keepIn X.K (.ref f) = true) (hb : Binds X.K fd ps []) (hx : ∀ σ, PassesAt (L2.CX X.prog X.w) X σ (E σ))
    (ha : PA X (e :: es) t) (hdb : (x == ("__debug__" : Str)) = false := by decide) (he : starEach (e :: es) X.env = (false, eval e X.env) :: starEach es X.env := by rfl) (hpl : (backTo pos (starEach es X.env)).any (·.1) = false := by rfl) :
    PE X (.Call (.Name x p) (e :: es) [] pos) (tCallS sp E t) := by
  refine ⟨fun pins s σ H Q I h => wpAny_Call_Name_kw (ld_glob I hg hm ?_ hdb)⟩
  refine PySem.W.callWith_K (h₀ := X.base) I.ok.mod.kin hk (thn (ha.run pos pins s σ H _ I h) fun us s1 ⟨vs, H1, I1, r, q⟩ => ⟨I1.kIn, ?_⟩) he hpl
  have b := hb s1 us I1.kIn (by rw [List.append_nil, ← r.length]; exact F.len _ _ _ _ q)
  rw [List.append_nil] at b
  refine wpAny_call (codeAny_mono (F.run X.A X.stack s1 H1 ⟨us, []⟩ us vs Q (E σ) hr I1.env0 b r q) fun o s' hq => ?_)
  cases o with
  | error e => exact hx σ pins H1 s1 e s' I1 hq
  | ok fl =>
    cases fl with
    | ret u => exact I1.after hq
    | next => exact False.elim hq
    | brk => exact False.elim hq
    | cont => exact False.elim hq
end

section
open PyProof.Rows
variable {P : Program} {w : World} {K : PySem.W.Frag} {mg mb : Str → Option Value} {k : Nat} {fa a : Addr} {fd : FuncData} {x : Str} {sp : Sp} {s₁ : Shared} {vs : List Value} {ns : List Int}
/-- the heap H tells of the script at a, and of nothing else -/
structure Sees (K : PySem.W.Frag) (P : Program) (w : World) (H : Hp) (h : Heap) (a : Addr) (ns : List Int) : Prop where
  only : Only H
  seq : SqL K H a (ns.map V.int)
  ok : HOk P w H h
  at_ : ∀ b, H b ≠ none → b = a
  notK : ∀ b, H b ≠ none → K.lookup b = none
theorem sees (KX : K.In s₁.heap) (ha : s₁.heap.get? a = some { cls := .type "list", data := .seq vs.toArray }) (hi : IntsAre vs ns) (hl : ns.length ≤ sizeLine) : ∃ H, Sees K P w H s₁.heap a ns := by
  have rv := vals_ints hi
  cases hk : K.lookup a with
  | some o =>
    have e := KX a o hk
    rw [ha] at e
    cases e
    refine ⟨fun _ => none, fun _ => .inl rfl, .inr ⟨_, vs.toArray, _, hk, rfl, rfl, rfl, ?_, by simpa using rv⟩, fun b u z => ?_, fun b z => absurd rfl z, fun b z => absurd rfl z⟩
    · rw [List.size_toArray, hi.length]; exact hl
    · have z' : (none : Option HO) = some u := z
      cases z'
  | none =>
    let o : Obj := { cls := .type "list", data := .seq vs.toArray }
    let H : Hp := fun b => if b = a then some (.frz o (.lst (ns.map V.int))) else none
    have Ha : H a = some (.frz o (.lst (ns.map V.int))) := if_pos rfl
    have Hn : ∀ {b}, b ≠ a → H b = none := fun e => if_neg e
    refine ⟨H, fun b => ?_, .inl (.inr ⟨o, Ha⟩), fun b u z => ?_, fun b z => ?_, fun b z => ?_⟩
    · by_cases e : b = a
      · exact .inr ⟨o, _, by rw [e]; exact Ha⟩
      · exact .inl (Hn e)
    · by_cases e : b = a
      · subst e
        rw [Ha] at z
        cases z
        exact ⟨ha, by rw [List.length_map]; exact hl, vs, _, rv, ha⟩
      · rw [Hn e] at z; cases z
    · by_cases e : b = a
      · exact e
      · exact absurd (Hn e) z
    · by_cases e : b = a
      · rw [e]; exact hk
      · exact absurd (Hn e) z
end
end Vi

namespace Vi
open PySem PySem.Spec L2

def o1 {β : Type} (f : D → Option β) : List D → Option β
  | [a] => f a
  | _ => none
def o2 {β : Type} (f : D → D → Option β) : List D → Option β
  | [a, b] => f a b
  | _ => none
def o3 {β : Type} (f : D → D → D → Option β) : List D → Option β
  | [a, b, c] => f a b c
  | _ => none
section
variable {β : Type} {K : PySem.W.Frag} {H G : Hp} {z : β} {xs : List V} {ds : List D}
theorem RbA.inv1 {f : D → Option β} (r : RbA K H G xs ds) (e : o1 f ds = some z) : ∃ x d, xs = [x] ∧ ds = [d] ∧ f d = some z ∧ Rb K H G x d := by
  cases r with
  | nil => cases e
  | cons r1 r2 =>
    cases r2 with
    | nil => exact ⟨_, _, rfl, rfl, e, r1⟩
    | cons _ _ => cases e
theorem RbA.inv2 {f : D → D → Option β} (r : RbA K H G xs ds) (e : o2 f ds = some z) : ∃ x y d d', xs = [x, y] ∧ ds = [d, d'] ∧ f d d' = some z ∧ Rb K H G x d ∧ Rb K H G y d' := by
  cases r with
  | nil => cases e
  | cons r1 r2 =>
    cases r2 with
    | nil => cases e
    | cons r3 r4 =>
      cases r4 with
      | nil => exact ⟨_, _, _, _, rfl, rfl, e, r1, r3⟩
      | cons _ _ => cases e
theorem RbA.inv3 {f : D → D → D → Option β} (r : RbA K H G xs ds) (e : o3 f ds = some z) : ∃ x y u d d' d'', xs = [x, y, u] ∧ ds = [d, d', d''] ∧ f d d' d'' = some z ∧ Rb K H G x d ∧ Rb K H G y d' ∧ Rb K H G u d'' := by
  cases r with
  | nil => cases e
  | cons r1 r2 =>
    cases r2 with
    | nil => cases e
    | cons r3 r4 =>
      cases r4 with
      | nil => cases e
      | cons r5 r6 =>
        cases r6 with
        | nil => exact ⟨_, _, _, _, _, _, rfl, rfl, e, r1, r3, r5⟩
        | cons _ _ => cases e
end

def seqD : D → Option (List D)
  | .lst xs => some xs
  | .tup xs => some xs
  | _ => none
def itSeq (f : M D) : M (List D) := bind f fun d => opt (seqD d)
section
variable {K : PySem.W.Frag} {μ : Mu} {W : WX} {X : Cx} {t e : Expr} {f : M D}
theorem jok_list {G : Hp} {a : Addr} {vs : List V} {ds : List D} (h : SqL K G a vs) (r : RpA K G vs ds) : JOk K G ds (Itl K a) where
  go := fun i H s hi => by
    obtain ⟨d, ed⟩ : ∃ d, ds[i]? = some d := ⟨ds[i], List.getElem?_eq_getElem hi⟩
    obtain ⟨v, hv, _⟩ := r.get ed
    exact ⟨vs, v, s.seq h, hv⟩
  stop := fun i H s hi => ⟨vs, s.seq h, by rw [r.len]; exact hi⟩
  yld := fun i H x H' d s ed y G1 g1 g2 => by
    obtain ⟨e1, y⟩ := y
    obtain ⟨v, hv, rv⟩ := r.get ed
    have e2 := y vs (s.seq h)
    rw [hv] at e2
    cases e2
    subst e1
    exact ⟨G1, .refl g2, rv.up g1⟩
theorem jok_tup {G : Hp} {a : Addr} {vs : List V} {ds : List D} (h : SqT K G a vs) (r : RpA K G vs ds) : JOk K G ds (Itt K a) where
  go := fun i H s hi => by
    obtain ⟨d, ed⟩ : ∃ d, ds[i]? = some d := ⟨ds[i], List.getElem?_eq_getElem hi⟩
    obtain ⟨v, hv, _⟩ := r.get ed
    exact ⟨vs, v, sqT_mono s h, hv⟩
  stop := fun i H s hi => ⟨vs, sqT_mono s h, by rw [r.len]; exact hi⟩
  yld := fun i H x H' d s ed y G1 g1 g2 => by
    obtain ⟨e1, y⟩ := y
    obtain ⟨v, hv, rv⟩ := r.get ed
    have e2 := y vs (sqT_mono s h)
    rw [hv] at e2
    cases e2
    subst e1
    exact ⟨G1, .refl g2, rv.up g1⟩
theorem i_seq (h : PE X e (lE K μ W f)) (hK : X.K = K := by rfl) : PI X t e (lI K μ W (itSeq f)) := by
  subst hK
  refine ⟨fun pins s σ H R I w => ?_⟩
  obtain ⟨ρ, G, R0, w⟩ := w
  unfold itSeq Vi.bind at w
  have gen : (∀ d ρ', f ρ = .ok d ρ' → ∃ ds, d = .lst ds) → wpAny (model X.prog X.w) X.A (eval e X.env) (fun v s1 => wpAny (model X.prog X.w) X.A (pyIter v) (PIE X pins σ t R) X.xe s1) X.xe s := fun hd => by
    refine (pi_list (tg := t) h).run pins s σ H R I ⟨ρ, G, R0, ?_⟩
    cases ef : f ρ with
    | no => rw [ef] at w; exact w
    | ex c ns ds ρ' => rw [ef] at w; exact w
    | ok d ρ' =>
      obtain ⟨ds, rfl⟩ := hd d ρ' ef
      rw [ef] at w
      intro H' G' R' S' v rv
      cases rv with
      | lst hs ra => exact ⟨_, rfl, ⟨_, SqL.of (R'.vis _ _ hs)⟩, w H' G' R' S' _ (jok_list (SqL.of hs) ra)⟩
  cases ef : f ρ with
  | no => exact gen fun d ρ' q => by rw [ef] at q; cases q
  | ex c ns ds ρ' => exact gen fun d ρ' q => by rw [ef] at q; cases q
  | ok d ρ' =>
    cases d with
    | lst ds => exact gen fun d ρ' q => by rw [ef] at q; cases q; exact ⟨ds, rfl⟩
    | tup ds =>
      refine (pi_tup (tg := t) h).run pins s σ H R I ⟨ρ, G, R0, ?_⟩
      rw [ef] at w ⊢
      intro H' G' R' S' v rv
      cases rv with
      | tup hs ra => exact ⟨_, rfl, ⟨_, sqT_mono R'.vis hs⟩, w H' G' R' S' _ (jok_tup hs ra)⟩
    | _ => rw [ef] at w; exact w.elim
/-- range(..) -/
def rngL (lo c : Int) (n : Nat) : List D := (List.range n).map fun i => D.int (lo + (i : Nat) * c)
def rng1D : D → Option (List D)
  | .int j => if -(2 ^ 62) ≤ j ∧ j < 2 ^ 62 then some (rngL 0 1 j.toNat) else none
  | _ => none
def rng2D : D → D → Option (List D)
  | .int i, .int j => if -(2 ^ 62) ≤ i ∧ i < 2 ^ 62 ∧ -(2 ^ 62) ≤ j ∧ j < 2 ^ 62 then some (rngL i 1 (j - i).toNat) else none
  | _, _ => none
def rng3D : D → D → D → Option (List D)
  | .int i, .int j, .int c => if c = -1 ∧ -(2 ^ 62) ≤ i ∧ i < 2 ^ 62 ∧ -(2 ^ 62) ≤ j ∧ j < 2 ^ 62 then some (rngL i (-1) (i - j).toNat) else none
  | _, _, _ => none
def itRng (o : List D → Option (List D)) (as : List Ar) : M (List D) := bind (evs as) (opx o)
theorem rngL_get {lo c : Int} {n i : Nat} {d : D} (h : (rngL lo c n)[i]? = some d) : i < n ∧ d = .int (lo + (i : Nat) * c) := by
  unfold rngL at h
  rw [List.getElem?_map] at h
  by_cases q : i < n
  · rw [List.getElem?_range q] at h; cases h; exact ⟨q, rfl⟩
  · rw [List.getElem?_eq_none (by rw [List.length_range]; omega)] at h; cases h
theorem rngL_len {lo c : Int} {n : Nat} : (rngL lo c n).length = n := by unfold rngL; rw [List.length_map, List.length_range]
theorem jok_rng {G : Hp} {lo : Int} {n : Nat} : JOk K G (rngL lo 1 n) (Itr lo n) where
  go := fun i H s hi => by rw [rngL_len] at hi; exact hi
  stop := fun i H s hi => by rw [rngL_len] at hi; exact hi
  yld := fun i H x H' d s ed y G1 g1 g2 => by
    obtain ⟨e1, y⟩ := y
    obtain ⟨_, e2⟩ := rngL_get ed
    subst e1 y e2
    rw [Int.mul_one]
    exact ⟨G1, .refl g2, .int _⟩
theorem jok_rngC {G : Hp} {lo c : Int} {n : Nat} : JOk K G (rngL lo c n) (Itc lo c n) where
  go := fun i H s hi => by rw [rngL_len] at hi; exact hi
  stop := fun i H s hi => by rw [rngL_len] at hi; exact hi
  yld := fun i H x H' d s ed y G1 g1 g2 => by
    obtain ⟨e1, y⟩ := y
    obtain ⟨_, e2⟩ := rngL_get ed
    subst e1 y e2
    exact ⟨G1, .refl g2, .int _⟩
variable {as : List Ar} {a b c : Ar} {ea eb ec : Expr} {p pos : Pos}
theorem rng_go {σ : St} {H : Hp} {R : It → Hp → Prop} {Q : List V → Hp → Prop} {o : List D → Option (List D)} (w : lI K μ W (itRng o as) σ H R)
    (c : ∀ (H1 G1 : Hp) (xs : List V) (ds L : List D), Same G1 H1 → RbA K H1 G1 xs ds → o ds = some L → (∀ J, JOk K G1 L J → R J H1) → Q xs H1) : rArs K μ W as σ H Q := by
  obtain ⟨ρ, G, R0, w⟩ := w
  refine evs_go R0 w fun xs ss ρ1 H1 G1 R1 S1 p1 h1 => ?_
  obtain ⟨ds, z, e1, e2, h2⟩ := opv_end h1
  exact c H1 G1 xs ds z R1.vis (p1.rb R1 e1) e2 (Post.ret R1 h2)
theorem i_rng1 (hg : Gl X "range") (hm : X.mg "range" = none) (ha : PA X [ea] (rArs K μ W [a])) (hs : starEach [ea] X.env = [(false, eval ea X.env)] := by rfl) : PI X t (.Call (.Name "range" p) [ea] [] pos) (lI K μ W (itRng (o1 rng1D) [a])) := by
  refine PI_of (pi_range1 hg hm ha hs) fun σ H R w => rng_go w fun H1 G1 xs ds L s r e c => ?_
  obtain ⟨x, d, rfl, rfl, e, r1⟩ := r.inv1 e
  cases d with
  | int j =>
    by_cases q : -(2 ^ 62) ≤ j ∧ j < 2 ^ 62
    · rw [rng1D, if_pos q] at e
      cases e
      rw [r1.int]
      exact ⟨j, rfl, q.1, q.2, c _ jok_rng⟩
    · rw [rng1D, if_neg q] at e; cases e
  | _ => cases e
theorem i_rng2 (hg : Gl X "range") (hm : X.mg "range" = none) (ha : PA X [ea, eb] (rArs K μ W [a, b])) (hs : starEach [ea, eb] X.env = [(false, eval ea X.env), (false, eval eb X.env)] := by rfl) (hs2 : starEach [eb] X.env = [(false, eval eb X.env)] := by rfl) : PI X t (.Call (.Name "range" p) [ea, eb] [] pos) (lI K μ W (itRng (o2 rng2D) [a, b])) := by
  refine PI_of (pi_range2 hg hm ha hs hs2) fun σ H R w => rng_go w fun H1 G1 xs ds L s r e c => ?_
  obtain ⟨x, y, d, d', rfl, rfl, e, r1, r2⟩ := r.inv2 e
  cases d with
  | int i =>
    cases d' with
    | int j =>
      by_cases q : -(2 ^ 62) ≤ i ∧ i < 2 ^ 62 ∧ -(2 ^ 62) ≤ j ∧ j < 2 ^ 62
      · rw [rng2D, if_pos q] at e
        cases e
        rw [r1.int, r2.int]
        exact ⟨i, j, rfl, q, c _ jok_rng⟩
      · rw [rng2D, if_neg q] at e; cases e
    | _ => cases e
  | _ => cases e
theorem i_rng3 (hg : Gl X "range") (hm : X.mg "range" = none) (ha : PA X [ea, eb, ec] (rArs K μ W [a, b, c])) (hs : starEach [ea, eb, ec] X.env = (false, eval ea X.env) :: starEach [eb, ec] X.env := by rfl) (hpl : (backTo pos (starEach [eb, ec] X.env)).any (·.1) = false := by rfl) : PI X t (.Call (.Name "range" p) [ea, eb, ec] [] pos) (lI K μ W (itRng (o3 rng3D) [a, b, c])) := by
  refine PI_of (pi_range3 hg hm ha hs hpl) fun σ H R w => rng_go w fun H1 G1 xs ds L s r e c => ?_
  obtain ⟨x, y, u, d, d', d'', rfl, rfl, e, r1, r2, r3⟩ := r.inv3 e
  cases d with
  | int i =>
    cases d' with
    | int j =>
      cases d'' with
      | int k =>
        by_cases q : k = -1 ∧ -(2 ^ 62) ≤ i ∧ i < 2 ^ 62 ∧ -(2 ^ 62) ≤ j ∧ j < 2 ^ 62
        · rw [rng3D, if_pos q] at e
          cases e
          obtain ⟨rfl, q1, q2, q3, q4⟩ := q
          rw [r1.int, r2.int, r3.int]
          exact ⟨i, j, -1, _, rfl, RgC.neg q1 q2 q3 q4, c _ jok_rngC⟩
        · rw [rng3D, if_neg q] at e; cases e
      | _ => cases e
    | _ => cases e
  | _ => cases e
end

section
variable {K : PySem.W.Frag} {μ : Mu} {W : WX} {X : Cx} {k n i : Nat} {f : Addr} {fd : FuncData} {ps : List Str} {F : FN} {FO' : FO} {fs : List (M D)} {x : Str} {p pos : Pos} {e : Expr} {es : List Expr}
theorem v_call (F' : FnG X.prog X.w X.K X.mg X.base (L2.CX X.prog X.w) k f fd ps (spF K n F)) (hr : RoomG k X.A) (hg : Gl X x) (hm : X.mg x = some (.ref f)) (hk : PySem.W.keepIn X.K (.ref f) = true) (hb : Binds X.K fd ps []) (tk : Takes X W)
    (ha : PA X (e :: es) (rDs K μ W fs)) (hn : fs.length = n := by rfl) (hdb : (x == ("__debug__" : Str)) = false := by decide) (he : starEach (e :: es) X.env = (false, eval e X.env) :: starEach es X.env := by rfl) (hpl : (backTo pos (starEach es X.env)).any (·.1) = false := by rfl) :
    PE X (.Call (.Name x p) (e :: es) [] pos) (lE K μ W (vCall F fs)) :=
  PE_of (pe_callG F' hr hg hm hk hb (fun σ => passAt tk σ) ha hdb he hpl) fun σ H Q w => go_call hn w
theorem v_callO (F' : FnG X.prog X.w X.K X.mg X.base (L2.CX X.prog X.w) k f fd ps (spO K n FO')) (hr : RoomG k X.A) (hg : Gl X x) (hm : X.mg x = some (.ref f)) (hk : PySem.W.keepIn X.K (.ref f) = true) (hb : Binds X.K fd ps []) (tk : Takes X W)
    (ha : PA X (e :: es) (rDs K μ W fs)) (hn : fs.length = n := by rfl) (hdb : (x == ("__debug__" : Str)) = false := by decide) (he : starEach (e :: es) X.env = (false, eval e X.env) :: starEach es X.env := by rfl) (hpl : (backTo pos (starEach es X.env)).any (·.1) = false := by rfl) :
    PE X (.Call (.Name x p) (e :: es) [] pos) (lO K μ W (vCallO FO' fs)) :=
  PE_of (pe_callG F' hr hg hm hk hb (fun σ => passAt tk σ) ha hdb he hpl) fun σ H Q w => go_callO hn w
theorem m_cons (h0 : PE X e (tVar i)) (hr : PA X es (rDs K μ W fs)) (hs : starEach (e :: es) X.env = (false, eval e X.env) :: starEach es X.env := by rfl) : PA X (e :: es) (tCons (tVar i) (rDs K μ W fs)) := pa_cons h0 hr hs
theorem v_callM (F' : FnG X.prog X.w X.K X.mg X.base (L2.CX X.prog X.w) k f fd ps (spF K n F)) (hr : RoomG k X.A) (hg : Gl X x) (hm : X.mg x = some (.ref f)) (hk : PySem.W.keepIn X.K (.ref f) = true) (hb : Binds X.K fd ps []) (tk : Takes X W)
    (ha : PA X (e :: es) (tCons (tVar i) (rDs K μ W fs))) (hn : fs.length + 1 = n := by rfl) (hdb : (x == ("__debug__" : Str)) = false := by decide) (he : starEach (e :: es) X.env = (false, eval e X.env) :: starEach es X.env := by rfl) (hpl : (backTo pos (starEach es X.env)).any (·.1) = false := by rfl) :
    PE X (.Call (.Name x p) (e :: es) [] pos) (lE K μ W (vCallM F i fs)) :=
  PE_of (pe_callG F' hr hg hm hk hb (fun σ => passAt tk σ) ha hdb he hpl) fun σ H Q w => go_callM hn w
end
end Vi

namespace Vi
open PySem PySem.Spec L2

def wipeE (ρ : En) : List Nat → En
  | [] => ρ
  | v :: vs => (wipeE ρ vs).set v .emp
def restE (ρ0 ρ : En) : List Nat → En
  | [] => ρ
  | v :: vs => match ρ0[v]? with
    | some s => (restE ρ0 ρ vs).set v s
    | none => restE ρ0 ρ vs
def compD (tg : Tg) (test : M Bool) (elt : M D) (vs : List Nat) : List D → M (List D)
  | [], ρ => .ok [] ρ
  | d :: ds, ρ => match asgT tg d ρ with
    | none => .no
    | some ρ1 => (match test ρ1 with
      | .ok true ρ2 => (match elt ρ2 with
        | .ok e ρ3 => (match compD tg test elt vs ds (wipeE ρ3 vs) with
          | .ok es ρ4 => .ok (e :: es) ρ4
          | _ => .no)
        | _ => .no)
      | .ok false ρ2 => compD tg test elt vs ds (wipeE ρ2 vs)
      | _ => .no)
def vLc (vs : List Nat) (tg : Tg) (it : M (List D)) (test : M Bool) (elt : M D) : M MO := bind it fun ds ρ => if ds.length ≤ sizeLine then (match compD tg test elt vs ds (wipeE ρ vs) with
  | .ok es ρ' => .ok (.lst es) (restE ρ ρ' vs)
  | _ => .no) else .no
def tgIn (vs : List Nat) : Tg → Prop
  | .nm i => i ∈ vs
  | .tup is => ∀ i ∈ is, i ∈ vs
abbrev W0 : WX := fun _ _ _ _ => False

section
variable {σ σ' : St} {ρ ρ0 ρ' : En} {vs : List Nat} {j : Nat}
theorem wipeE_len : ∀ vs : List Nat, (wipeE ρ vs).length = ρ.length
  | [] => rfl
  | v :: vs => by unfold wipeE; rw [List.length_set, wipeE_len vs]
theorem wipeE_in : ∀ {vs : List Nat}, j ∈ vs → j < ρ.length → (wipeE ρ vs)[j]? = some .emp
  | [], h, _ => by cases h
  | v :: vs, h, hl => by
    unfold wipeE
    by_cases e : v = j
    · subst e; rw [List.getElem?_set_self (by rw [wipeE_len]; exact hl)]
    · rw [List.getElem?_set_ne e]
      rcases List.mem_cons.mp h with z | z
      · exact absurd z.symm e
      · exact wipeE_in z hl
theorem wipeE_out : ∀ {vs : List Nat}, j ∉ vs → (wipeE ρ vs)[j]? = ρ[j]?
  | [], _ => rfl
  | v :: vs, h => by
    unfold wipeE
    rw [List.getElem?_set_ne fun z => h (by rw [z]; exact List.mem_cons_self)]
    exact wipeE_out fun z => h (List.mem_cons_of_mem _ z)
theorem wipe_in : ∀ {vs : List Nat}, j ∈ vs → j < σ.length → (wipe σ vs)[j]? = some none
  | [], h, _ => by cases h
  | v :: vs, h, hl => by
    unfold wipe
    by_cases e : v = j
    · subst e; rw [List.getElem?_set_self (by rw [wipe_length]; exact hl)]
    · rw [List.getElem?_set_ne e]
      rcases List.mem_cons.mp h with z | z
      · exact absurd z.symm e
      · exact wipe_in z hl
theorem wipe_out : ∀ {vs : List Nat}, j ∉ vs → (wipe σ vs)[j]? = σ[j]?
  | [], _ => rfl
  | v :: vs, h => by
    unfold wipe
    rw [List.getElem?_set_ne fun z => h (by rw [z]; exact List.mem_cons_self)]
    exact wipe_out fun z => h (List.mem_cons_of_mem _ z)
theorem restE_len : ∀ vs : List Nat, (restE ρ0 ρ vs).length = ρ.length
  | [] => rfl
  | v :: vs => by
    unfold restE
    split
    · rw [List.length_set, restE_len vs]
    · exact restE_len vs
theorem restE_in (hl : ρ0.length = ρ.length) : ∀ {vs : List Nat}, j ∈ vs → (restE ρ0 ρ vs)[j]? = ρ0[j]?
  | [], h => by cases h
  | v :: vs, h => by
    unfold restE
    by_cases e : v = j
    · subst e
      cases q : ρ0[v]? with
      | none =>
        have : ρ0.length ≤ v := List.getElem?_eq_none_iff.mp q
        simp only
        rw [List.getElem?_eq_none (by rw [restE_len]; omega)]
      | some s =>
        have := lt_of_get q
        simp only
        rw [List.getElem?_set_self (by rw [restE_len]; omega)]
    · rcases List.mem_cons.mp h with z | z
      · exact absurd z.symm e
      · split
        · rw [List.getElem?_set_ne e]; exact restE_in hl z
        · exact restE_in hl z
theorem restE_out : ∀ {vs : List Nat}, j ∉ vs → (restE ρ0 ρ vs)[j]? = ρ[j]?
  | [], _ => rfl
  | v :: vs, h => by
    unfold restE
    have e : v ≠ j := fun z => h (by rw [z]; exact List.mem_cons_self)
    split
    · rw [List.getElem?_set_ne e]; exact restE_out fun z => h (List.mem_cons_of_mem _ z)
    · exact restE_out fun z => h (List.mem_cons_of_mem _ z)
/-- lists that agree outside vs are wiped to the same -/
theorem wipe_same (hl : σ'.length = σ.length) (h : ∀ j, j ∉ vs → σ'[j]? = σ[j]?) : wipe σ' vs = wipe σ vs := by
  refine List.ext_getElem? fun j => ?_
  by_cases hj : j ∈ vs
  · by_cases q : j < σ.length
    · rw [wipe_in hj q, wipe_in hj (by omega)]
    · rw [List.getElem?_eq_none (by rw [wipe_length]; omega), List.getElem?_eq_none (by rw [wipe_length]; omega)]
  · rw [wipe_out hj, wipe_out hj, h j hj]
end

section
variable {K : PySem.W.Frag} {μ : Mu} {W : WX} {X : Cx} {σ : St} {ρ ρ' : En} {H H' G G' : Hp} {vs : List Nat}
theorem ow_wipe {i : Nat} {b : Addr} (hl : σ.length = ρ.length) (h : ownAt (wipe σ vs) (wipeE ρ vs) i b) : i ∉ vs ∧ ownAt σ ρ i b := by
  obtain ⟨h1, h2⟩ := h
  by_cases hi : i ∈ vs
  · by_cases q : i < ρ.length
    · rw [wipeE_in hi q] at h1; exact h1.elim
    · rw [List.getElem?_eq_none (by rw [wipeE_len]; omega)] at h1; exact h1.elim
  · rw [wipeE_out hi] at h1
    rw [wipe_out hi] at h2
    exact ⟨hi, h1, h2⟩
theorem Rl.wipe (R : Rl K μ σ H ρ G) (vs : List Nat) : Rl K μ (wipe σ vs) H (wipeE ρ vs) G := by
  refine ⟨by rw [wipe_length, wipeE_len]; exact R.len, fun j s q => ?_, R.vis, fun i j a h1 h2 => R.apart i j a (ow_wipe R.len h1).2 (ow_wipe R.len h2).2⟩
  by_cases hj : j ∈ vs
  · by_cases hl : j < ρ.length
    · rw [wipeE_in hj hl] at q
      cases q
      exact ⟨none, wipe_in hj (by rw [R.len]; exact hl), trivial⟩
    · rw [List.getElem?_eq_none (by rw [wipeE_len]; omega)] at q; cases q
  · rw [wipeE_out hj] at q
    rw [wipe_out hj]
    exact R.slot j s q
/-- the frame's own slots come back behind a comprehension -/
theorem Rl.rest (R : Rl K μ σ H ρ G) (R' : Rl K μ (L2.wipe σ vs) H' ρ' G') (S : Step (L2.wipe σ vs) (wipeE ρ vs) H G (L2.wipe σ vs) ρ' H' G') : Rl K μ σ H' (restE ρ ρ' vs) G' ∧ Step σ ρ H G σ (restE ρ ρ' vs) H' G' := by
  have hl : ρ.length = ρ'.length := by have a := R.len; have b := R'.len; rw [wipe_length] at b; omega
  have ow : ∀ i b, ownAt σ (restE ρ ρ' vs) i b → (i ∈ vs ∧ ownAt σ ρ i b) ∨ (i ∉ vs ∧ ownAt (L2.wipe σ vs) ρ' i b) := fun i b ⟨h1, h2⟩ => by
    by_cases hi : i ∈ vs
    · rw [restE_in hl hi] at h1; exact .inl ⟨hi, h1, h2⟩
    · rw [restE_out hi] at h1
      refine .inr ⟨hi, h1, ?_⟩
      rw [wipe_out hi]; exact h2
  -- what a wiped slot owns nobody else turned
  have stay : ∀ {i : Nat} {a : Addr} {u : HO}, i ∈ vs → ownAt σ ρ i a → H a = some u → G a = none → H' a = some u ∧ G' a = none := fun {i a u} hi ho hu hg => by
    have no : ∀ j, ¬ ownAt (L2.wipe σ vs) (wipeE ρ vs) j a := fun j q => by
      obtain ⟨q1, q2⟩ := ow_wipe R.len q
      exact q1 (by rw [R.apart j i a q2 ho]; exact hi)
    refine ⟨S.keep a u hu no, ?_⟩
    cases z : G' a with
    | none => rfl
    | some o =>
      rcases S.vis a o z with y | y | ⟨j, y⟩
      · rw [hg] at y; cases y
      · rw [hu] at y; cases y
      · exact absurd y (no j)
  refine ⟨⟨by rw [restE_len, ← hl]; exact R.len, fun j s q => ?_, R'.vis, fun i j a h1 h2 => ?_⟩, ⟨S.g, fun b o h n => S.keep b o h fun i q => n i (ow_wipe R.len q).2, S.dom, fun i b q => ?_, fun b o q => (S.vis b o q).imp id fun z => z.imp id fun ⟨i, y⟩ => ⟨i, (ow_wipe R.len y).2⟩⟩⟩
  · by_cases hj : j ∈ vs
    · rw [restE_in hl hj] at q
      obtain ⟨o, h1, h2⟩ := R.slot j s q
      refine ⟨o, h1, ?_⟩
      cases s with
      | emp => trivial
      | dat d => obtain ⟨v, e1, r1⟩ := h2; exact ⟨v, e1, r1.up S.g⟩
      | own m => obtain ⟨b, u, e1, e2, e3, r1⟩ := h2; obtain ⟨k1, k2⟩ := stay hj ⟨by rw [q]; trivial, by rw [h1, e1]⟩ e2 e3; exact ⟨b, u, e1, k1, k2, r1.up S.g⟩
      | mu m => obtain ⟨u, e1, e2, e3, r1⟩ := h2; obtain ⟨k1, k2⟩ := stay hj ⟨by rw [q]; trivial, by rw [h1, e1]⟩ e2 e3; exact ⟨u, e1, k1, k2, r1.up S.g⟩
      | exc c ns ds => obtain ⟨e1, e2, dd, fs, e3, e4, e5, r1⟩ := h2; exact ⟨e1, e2, dd, fs, e3, S.g _ _ e4, e5, r1.up S.g⟩
    · rw [restE_out hj] at q
      have z := R'.slot j s q
      rw [wipe_out hj] at z
      exact z
  · rcases ow i a h1 with ⟨a1, a2⟩ | ⟨a1, a2⟩
    · rcases ow j a h2 with ⟨b1, b2⟩ | ⟨b1, b2⟩
      · exact R.apart i j a a2 b2
      · exfalso
        obtain ⟨o, e1⟩ : ∃ o, H a = some o := by
          cases y : H a with
          | some o => exact ⟨o, rfl⟩
          | none => exact absurd a2 (no_own R y i)
        rcases S.ow j a b2 with z | ⟨k, z⟩
        · rw [e1] at z; cases z
        · obtain ⟨z1, z2⟩ := ow_wipe R.len z
          exact z1 (by rw [R.apart k i a z2 a2]; exact a1)
    · rcases ow j a h2 with ⟨b1, b2⟩ | ⟨b1, b2⟩
      · exfalso
        obtain ⟨o, e1⟩ : ∃ o, H a = some o := by
          cases y : H a with
          | some o => exact ⟨o, rfl⟩
          | none => exact absurd b2 (no_own R y j)
        rcases S.ow i a a2 with z | ⟨k, z⟩
        · rw [e1] at z; cases z
        · obtain ⟨z1, z2⟩ := ow_wipe R.len z
          exact z1 (by rw [R.apart k j a z2 b2]; exact b1)
      · exact R'.apart i j a a2 b2
  · rcases ow i b q with ⟨a1, a2⟩ | ⟨a1, a2⟩
    · exact .inr ⟨i, a2⟩
    · exact (S.ow i b a2).imp id fun ⟨k, y⟩ => ⟨k, (ow_wipe R.len y).2⟩
/-- a target within the block -/
theorem asgs_out : ∀ {is : List Nat} {ds : List D} {us : List V} {σ : St} {ρ ρ' : En} {H G : Hp} {Q : St → Hp → Prop}, (∀ i ∈ is, i ∈ vs) → Rl K μ σ H ρ G → RpA K G us ds → asgs is ds ρ = some ρ' →
    (∀ σ', σ'.length = σ.length → (∀ j, j ∉ vs → σ'[j]? = σ[j]?) → Rl K μ σ' H ρ' G → Step σ ρ H G σ' ρ' H G → Q σ' H) → gNames is us σ H Q
  | [], [], us, σ, ρ, ρ', H, G, Q, _, R, r, h, q => by
    cases r
    cases h
    exact ⟨rfl, q σ rfl (fun _ _ => rfl) R (.refl _ _ _ _)⟩
  | [], _ :: _, _, _, _, _, _, _, _, _, _, _, h, _ => by cases h
  | _ :: _, [], _, _, _, _, _, _, _, _, _, _, h, _ => by cases h
  | i :: is, d :: ds, us, σ, ρ, ρ', H, G, Q, hi, R, r, h, q => by
    cases r with
    | cons r1 r2 =>
      obtain ⟨R2, S2⟩ := R.put i r1
      refine ⟨_, _, rfl, asgs_out (fun j hj => hi j (List.mem_cons_of_mem _ hj)) R2 r2 h fun σ' hl ho R' S' => q σ' (by rw [hl, List.length_set]) (fun j hj => ?_) R' (S2.trans S')⟩
      rw [ho j hj, List.getElem?_set_ne fun z => hj (by rw [← z]; exact hi i List.mem_cons_self)]
theorem asgT_out {tg : Tg} {d : D} {v : V} {Q : St → Hp → Prop} (hi : tgIn vs tg) (R : Rl K μ σ H ρ G) (r : Rp K G v d) (h : asgT tg d ρ = some ρ')
    (q : ∀ σ', σ'.length = σ.length → (∀ j, j ∉ vs → σ'[j]? = σ[j]?) → Rl K μ σ' H ρ' G → Step σ ρ H G σ' ρ' H G → Q σ' H) : gT K tg v σ H Q := by
  cases tg with
  | nm i =>
    cases h
    obtain ⟨R2, S2⟩ := R.put i r
    exact q _ (by rw [List.length_set]) (fun j hj => by rw [List.getElem?_set_ne fun z => hj (by rw [← z]; exact hi)]) R2 S2
  | tup is =>
    cases d with
    | tup ds =>
      cases r with
      | tup hs ra =>
        refine ⟨_, _, rfl, sqT_mono R.vis hs, ?_, asgs_out hi R ra h q⟩
        rw [ra.len]
        exact asgs_len h
    | _ => cases h
theorem Step.hid {σ' : St} {D : Addr} {o : HO} (S : Step σ ρ H G σ' ρ' H' G') (n : H D = none) : Step σ ρ H G σ' ρ' (upd H' D o) G' :=
  ⟨S.g, fun b u h no => by rw [upd_ne (ne_of_none h n)]; exact S.keep b u h no, fun b h => by
    by_cases z : b = D
    · rw [z]; exact n
    · rw [upd_ne z] at h; exact S.dom b h, S.ow, S.vis⟩
theorem Rl.hidden {D : Addr} {o : HO} (R : Rl K μ σ H ρ G) (g : G D = none) (no : ∀ j, ¬ ownAt σ ρ j D) : Rl K μ σ (upd H D o) ρ G := by
  refine ⟨R.len, fun i s q => ?_, fun b u h => by rw [upd_ne (ne_of_none h g)]; exact R.vis b u h, R.apart⟩
  obtain ⟨v, h1, h2⟩ := R.slot i s q
  refine ⟨v, h1, ?_⟩
  have ne : ∀ {b : Addr}, ownAt σ ρ i b → b ≠ D := fun {b} ob y => no i (by rw [← y]; exact ob)
  cases s with
  | emp => trivial
  | dat d => exact h2
  | own m => obtain ⟨b, u, e1, e2, e3, r1⟩ := h2; exact ⟨b, u, e1, by rw [upd_ne (ne ⟨by rw [q]; trivial, by rw [h1, e1]⟩)]; exact e2, e3, r1⟩
  | mu m => obtain ⟨u, e1, e2, e3, r1⟩ := h2; exact ⟨u, e1, by rw [upd_ne (ne ⟨by rw [q]; trivial, by rw [h1, e1]⟩)]; exact e2, e3, r1⟩
  | exc c ns ds => exact h2
theorem Step.wiped {σ' : St} (S : Step (L2.wipe σ vs) ρ H G σ' ρ' H' G') (hl : σ'.length = ρ'.length) (e : L2.wipe σ' vs = L2.wipe σ vs) : Step (L2.wipe σ vs) ρ H G (L2.wipe σ vs) (wipeE ρ' vs) H' G' :=
  ⟨S.g, S.keep, S.dom, fun i b h => S.ow i b (by rw [← e] at h; exact (ow_wipe hl h).2), S.vis⟩
theorem go_lc {tg : Tg} {it : M (List D)} {test : M Bool} {elt : M D} {Q : VK} (hi : tgIn vs tg) (w : lO K μ W (vLc vs tg it test elt) σ H Q) : tLc (lI K μ W it) (gT K tg) (lT K μ W0 test) (lE K μ W0 elt) vs σ H Q := by
  obtain ⟨ρ, G, R, w⟩ := w
  refine ⟨ρ, G, R, (Post.bind w).imp fun ds ρ0 H0 G0 R0 S0 h J ok D nD => ?_⟩
  by_cases hsz : ds.length ≤ sizeLine
  · rw [if_pos hsz] at h
    cases ec : compD tg test elt vs ds (wipeE ρ0 vs) with
    | no => simp only [ec] at h; exact h.elim
    | ex c ns es r => simp only [ec] at h; exact h.elim
    | ok es ρe =>
      simp only [ec] at h
      have gD : G0 D = none := R0.vis.free nD
      have noD : ∀ i, ¬ ownAt (L2.wipe σ vs) (wipeE ρ0 vs) i D := fun i q => no_own R0 nD i (ow_wipe R0.len q).2
      refine ⟨fun i m H1 => m = ds.length - i ∧ i ≤ ds.length ∧ ∃ (ρ1 : En) (G1 : Hp) (acc : List V) (done es' : List Vi.D), Rl K μ (L2.wipe σ vs) H1 ρ1 G1 ∧ Step (L2.wipe σ vs) (wipeE ρ0 vs) H0 G0 (L2.wipe σ vs) ρ1 H1 G1 ∧
        H1 D = some (.lst acc) ∧ G1 D = none ∧ (∀ j, ¬ ownAt (L2.wipe σ vs) ρ1 j D) ∧ RpA K G1 acc done ∧ acc.length ≤ i ∧ compD tg test elt vs (ds.drop i) ρ1 = .ok es' ρe ∧ es = done ++ es', ⟨ds.length, by simp, Nat.zero_le _, wipeE ρ0 vs, G0, [], [], es,
          (R0.wipe vs).hidden gD noD, (Step.refl _ _ _ _).hid nD, upd_same, gD, noD, .nil, Nat.le_refl _, ec, rfl⟩, ?_⟩
      rintro i m H1 ⟨rfl, hle, ρ1, G1, acc, done, es', R1, S1, hD, g1, no1, ra, hacc, e1, e2⟩
      have gg : Same G0 G1 := S1.g
      by_cases hlt : i < ds.length
      · obtain ⟨d, ed, edr⟩ := drop_cons hlt
        refine .inr ⟨ok.go i H1 (gg.trans R1.vis) hlt, fun H' => ∃ (ρ1 : En) (G1 : Hp) (acc : List V) (done es' : List Vi.D), Rl K μ (L2.wipe σ vs) H' ρ1 G1 ∧ Step (L2.wipe σ vs) (wipeE ρ0 vs) H0 G0 (L2.wipe σ vs) ρ1 H' G1 ∧
          H' D = some (.lst acc) ∧ G1 D = none ∧ (∀ j, ¬ ownAt (L2.wipe σ vs) ρ1 j D) ∧ RpA K G1 acc done ∧ acc.length ≤ i + 1 ∧ compD tg test elt vs (ds.drop (i + 1)) ρ1 = .ok es' ρe ∧ es = done ++ es', fun H' q => ⟨ds.length - (i + 1), by omega, rfl, hlt, q⟩, fun x H2 y => ?_⟩
        obtain ⟨G2, al, rx⟩ := ok.yld i H1 x H2 d (gg.trans R1.vis) ed y G1 gg R1.vis
        rw [edr] at e1
        unfold compD at e1
        cases ea : asgT tg d ρ1 with
        | none => simp only [ea] at e1; cases e1
        | some ρ2 =>
          simp only [ea] at e1
          refine asgT_out hi (R1.alloc al) rx ea fun σ2 hl2 ho2 R2 S2 => ?_
          have hl2' : σ2.length = σ.length := by rw [hl2, wipe_length]
          have ew : L2.wipe σ2 vs = L2.wipe σ vs := wipe_same hl2' fun j hj => by rw [ho2 j hj, wipe_out hj]
          refine ⟨ew, ρ2, G2, R2, ?_⟩
          -- behind everything that a turn does
          have fin : ∀ (ρ4 : En) (H4 G4 : Hp), Rl K μ σ2 H4 ρ4 G4 → Step σ2 ρ2 H2 G2 σ2 ρ4 H4 G4 → H4 D = some (.lst acc) ∧ G4 D = none ∧ (∀ j, ¬ ownAt (L2.wipe σ vs) (wipeE ρ4 vs) j D) ∧ Rl K μ (L2.wipe σ vs) H4 (wipeE ρ4 vs) G4 ∧ Step (L2.wipe σ vs) (wipeE ρ0 vs) H0 G0 (L2.wipe σ vs) (wipeE ρ4 vs) H4 G4 ∧ Same G1 G4 := fun ρ4 H4 G4 R4 S4 => by
            have T : Step (L2.wipe σ vs) ρ1 H1 G1 σ2 ρ4 H4 G4 := (al.step (σ := L2.wipe σ vs) (ρ := ρ1)).trans (S2.trans S4)
            have no4 : ∀ j, ¬ ownAt σ2 ρ4 j D := fun j q => by
              rcases T.ow j D q with z | ⟨k, z⟩
              · rw [hD] at z; cases z
              · exact no1 k z
            refine ⟨T.keep D _ hD no1, ?_, fun j q => no4 j (by rw [← ew] at q; exact (ow_wipe R4.len q).2), by rw [← ew]; exact R4.wipe vs, S1.trans (T.wiped R4.len ew), T.g⟩
            cases z : G4 D with
            | none => rfl
            | some o =>
              rcases T.vis D o z with y | y | ⟨k, y⟩
              · rw [g1] at y; cases y
              · rw [hD] at y; cases y
              · exact absurd y (no1 k)
          cases et : test ρ2 with
          | no => simp only [et] at e1; cases e1
          | ex c ns ds' r => simp only [et] at e1; cases e1
          | ok b ρ3 =>
            simp only [et] at e1
            intro H3 G3 R3 S3
            cases b with
            | false =>
              simp only at e1
              obtain ⟨k1, k2, k3, k4, k5, k6⟩ := fin ρ3 H3 G3 R3 S3
              exact iteF ⟨_, G3, acc, done, es', k4, k5, k1, k2, k3, ra.up k6, by omega, e1, e2⟩
            | true =>
              simp only at e1
              refine iteT ⟨ρ3, G3, R3, ?_⟩
              cases ee : elt ρ3 with
              | no => simp only [ee] at e1; cases e1
              | ex c ns ds' r => simp only [ee] at e1; cases e1
              | ok e ρ4 =>
                simp only [ee] at e1
                intro H4 G4 R4 S4 yv ry
                obtain ⟨k1, k2, k3, k4, k5, k6⟩ := fin ρ4 H4 G4 R4 (S3.trans S4)
                cases er : compD tg test elt vs (ds.drop (i + 1)) (wipeE ρ4 vs) with
                | no => simp only [er] at e1; cases e1
                | ex c ns ds' r => simp only [er] at e1; cases e1
                | ok es2 ρ5 =>
                  simp only [er] at e1
                  cases e1
                  exact ⟨acc, k1, by omega, wipeE ρ4 vs, G4, acc ++ [yv], done ++ [e], es2, k4.hidden k2 k3, k5.hid nD, upd_same, k2, k3, (ra.up k6).append (.one ry), by rw [List.length_append, List.length_singleton]; omega, er, by rw [e2, List.append_assoc]; rfl⟩
      · have e : i = ds.length := by omega
        subst e
        rw [List.drop_length] at e1
        cases e1
        refine .inl ⟨ok.stop _ H1 (gg.trans R1.vis) (Nat.le_refl _), ?_⟩
        obtain ⟨R2, S2⟩ := R0.rest R1 S1
        rw [List.append_nil] at e2
        subst e2
        have hl := R0.len.symm.trans ((wipe_length σ vs).symm.trans R1.len)
        refine h H1 G1 R2 S2 D (.lst acc) hD g1 (fun j q => ?_) (S0.dom D nD) ⟨acc, rfl, ra⟩
        obtain ⟨q1, q2⟩ := q
        by_cases hj : j ∈ vs
        · rw [restE_in hl hj] at q1
          exact no_own R0 nD j ⟨q1, q2⟩
        · rw [restE_out hj] at q1
          exact no1 j ⟨q1, by rw [wipe_out hj]; exact q2⟩
  · rw [if_neg hsz] at h; exact h.elim
theorem t_yes : PTs X [] (lT K μ W0 (ret true)) := ⟨fun pins s σ H Q I ⟨ρ, G, R, w⟩ => pts_nil.run pins s σ H Q I (Post.ret R w)⟩
theorem v_lc {elt tg iter : Expr} {ifs : List Expr} {scope : Scope} {own : List (Str × Nat)} {pos : Pos} {t : Tg} {it : M (List D)} {test : M Bool} {fe : M D} (hi : tgIn (own.map (·.2)) t) (hc : X.calm = true) (hN : X.N.Nodup) (hw : PI X tg iter (lI K μ W it)) (ok : BlkOk X.N X.env.scope scope own)
    (hg : ∀ (s : Shared) (H : Hp) (C : Addr) (cl : List (Str × Addr)) (fp : List Addr), PG (X.blk s H scope (compEnvC scope cl C X.env) fp) tg (gT K t)) (ht : ∀ (s : Shared) (H : Hp) (C : Addr) (cl : List (Str × Addr)) (fp : List Addr), PTs (X.blk s H scope (compEnvC scope cl C X.env) fp) ifs (lT K μ W0 test))
    (he : ∀ (s : Shared) (H : Hp) (C : Addr) (cl : List (Str × Addr)) (fp : List Addr), PE (X.blk s H scope (compEnvC scope cl C X.env) fp) elt (lE K μ W0 fe)) (hs : ∀ x, foldedSetIterable iter X.env x = pure x := by intro _; rfl) :
    PE X (.ListComp elt [⟨tg, iter, ifs, 0⟩] scope pos) (lO K μ W (vLc (own.map (·.2)) t it test fe)) :=
  PE_of (pe_lc hc hN hw ok hg ht he hs) fun σ H Q w => go_lc hi w
theorem s_setLc {i : Nat} {y : Str} {py : Pos} {elt tg iter : Expr} {ifs : List Expr} {scope : Scope} {own : List (Str × Nat)} {pos spos : Pos} {t : Tg} {it : M (List D)} {test : M Bool} {fe : M D} (hi : tgIn (own.map (·.2)) t) (hc : X.calm = true) (hN : X.N.Nodup) (hy : X.N[i]? = some y) (hyl : X.env.scope.names.lookup y = some .local)
    (hsw : swapsWith (.ListComp elt [⟨tg, iter, ifs, 0⟩] scope pos) (some (.Name y py)) spos.line X.env = pure true) (hw : PI X tg iter (lI K μ W it)) (ok : BlkOk X.N X.env.scope scope own)
    (hg : ∀ (s : Shared) (H : Hp) (C : Addr) (cl : List (Str × Addr)) (fp : List Addr), PG (X.blk s H scope (compEnvC scope cl C X.env) fp) tg (gT K t)) (ht : ∀ (s : Shared) (H : Hp) (C : Addr) (cl : List (Str × Addr)) (fp : List Addr), PTs (X.blk s H scope (compEnvC scope cl C X.env) fp) ifs (lT K μ W0 test))
    (he : ∀ (s : Shared) (H : Hp) (C : Addr) (cl : List (Str × Addr)) (fp : List Addr), PE (X.blk s H scope (compEnvC scope cl C X.env) fp) elt (lE K μ W0 fe)) (hs : ∀ x, foldedSetIterable iter X.env x = pure x := by intro _; rfl) :
    PS X (.Assign [.Name y py] (.ListComp elt [⟨tg, iter, ifs, 0⟩] scope pos) spos) (lS K μ W (vSetO i (vLc (own.map (·.2)) t it test fe))) := by
  refine PS_of (ps_setLc hc hN hy hyl hsw hw ok hg ht he hs) fun Dn σ H w => ?_
  have w2 : tAsg (lO K μ W (vLc (own.map (·.2)) t it test fe)) (gName i) Dn σ H := go_setO w
  exact go_lc hi w2
end
end Vi

namespace Vi
open PySem PySem.Spec L2

theorem OpR.or2 {X : Cx} {f : Value → Value → Sem Value} {r r' : R2} (h : OpR X f r) (h' : OpR X f r') : OpR X f (fun x y H Q => r x y H Q ∨ r' x y H Q) := by
  intro pins s σ H x y v u Q I rx ry q
  rcases q with q | q
  · exact h pins s σ H x y v u Q I rx ry q
  · exact h' pins s σ H x y v u Q I rx ry q
theorem CallR.or2 {X : Cx} {f : Value} {r r' : List V → Hp → VK → Prop} (h : CallR X f r) (h' : CallR X f r') : CallR X f (fun xs H Q => r xs H Q ∨ r' xs H Q) := by
  intro pins s σ H xs us Q I rs q
  rcases q with q | q
  · exact h pins s σ H xs us Q I rs q
  · exact h' pins s σ H xs us Q I rs q
section
variable {K : PySem.W.Frag} {H G : Hp}
theorem Rb.tupR {v : V} {ds : List D} (h : Rb K H G v (.tup ds)) : Rp K G v (.tup ds) := by
  rcases h with h | ⟨a, u, m, e, h, r, q⟩
  · exact h
  · cases m <;> cases q
end

def addO : D → D → Option MO
  | .lst xs, .lst ys => if (xs ++ ys).length ≤ sizeLine then some (.lst (xs ++ ys)) else none
  | _, _ => none
theorem o_addO {K : PySem.W.Frag} : O2 K rCat (o2 addO) := by
  intro H G x y d e z Q s rx ry ho q
  cases d with
  | lst xs =>
    cases e with
    | lst ys =>
      obtain ⟨a, vs, rfl, h1, r1⟩ := rx.lst s
      obtain ⟨b, us, rfl, h2, r2⟩ := ry.lst s
      have ho2 : (if (xs ++ ys).length ≤ sizeLine then some (MO.lst (xs ++ ys)) else none) = some z := ho
      by_cases hz : (xs ++ ys).length ≤ sizeLine
      · rw [if_pos hz] at ho2
        cases ho2
        exact ⟨a, b, vs, us, rfl, rfl, h1, h2, by rw [r1.len, r2.len, ← List.length_append]; exact hz, fun p n => q p _ n ⟨_, rfl, r1.append r2⟩⟩
      · rw [if_neg hz] at ho2; cases ho2
    | _ => cases ho
  | _ => cases ho
def addD : D → D → Option D
  | .int i, .int j => some (.int (i + j))
  | .str x, .str y => if x.length + y.length ≤ sizeLine then some (.str (x ++ y)) else none
  | .tup xs, .tup ys => if xs.length + ys.length ≤ sizeLine then some (.tup (xs ++ ys)) else none
  | .lst xs, .lst ys => if (xs ++ ys).length ≤ sizeLine then some (.lst (xs ++ ys)) else none
  | _, _ => none
def rAddA (K : PySem.W.Frag) : R2 := fun x y H Q => (rI0 (fun i j => .int (i + j))) x y H Q ∨ (fun x y H Q => ∃ i j, x = .str i ∧ y = .str j ∧ i.length + j.length ≤ sizeLine ∧ Q (.str (i ++ j)) H) x y H Q ∨ rCatA K x y H Q ∨ rCat x y H Q
theorem op_addA {X : Cx} : OpR X (binaryOp .Add) (rAddA X.K) := OpR.or2 op_add (OpR.or2 op_add_str (OpR.or2 op_catA op_cat))
theorem o_add {K : PySem.W.Frag} : S2 K (rAddA K) (o2 addD) := by
  intro H G x y d e z Q s rx ry ho q
  have ho : addD d e = some z := ho
  cases d with
  | int i =>
    cases e with
    | int j =>
      cases ho
      exact .inl ⟨i, j, rx.int, ry.int, q _ _ _ (.refl s) (.int _)⟩
    | _ => cases ho
  | str i =>
    cases e with
    | str j =>
      have ho2 : (if i.length + j.length ≤ sizeLine then some (D.str (i ++ j)) else none) = some z := ho
      by_cases hz : i.length + j.length ≤ sizeLine
      · rw [if_pos hz] at ho2
        cases ho2
        exact .inr (.inl ⟨i, j, rx.str, ry.str, hz, q _ _ _ (.refl s) (.str _)⟩)
      · rw [if_neg hz] at ho2; cases ho2
    | _ => cases ho
  | tup xs =>
    cases e with
    | tup ys =>
      have ho2 : (if xs.length + ys.length ≤ sizeLine then some (D.tup (xs ++ ys)) else none) = some z := ho
      by_cases hz : xs.length + ys.length ≤ sizeLine
      · rw [if_pos hz] at ho2
        cases ho2
        obtain ⟨a, vs, rfl, h1, r1⟩ := rx.tup s
        obtain ⟨b, us, rfl, h2, r2⟩ := ry.tup s
        have l1 := r1.len
        have l2 := r2.len
        refine .inr (.inr (.inl ⟨a, b, vs, us, rfl, rfl, h1, h2, by omega, fun e => ?_, fun e f => ?_, fun e f p n => ?_⟩))
        · subst e
          cases r1
          exact q _ _ _ (.refl s) (by rw [List.nil_append]; exact ry.tupR)
        · subst f
          cases r2
          exact q _ _ _ (.refl s) (by rw [List.append_nil]; exact rx.tupR)
        · have al := Alloc.new (u := .tup (vs ++ us)) s n
          exact q _ _ _ al (.tup (SqT.of upd_same) ((r1.append r2).up al.g))
      · rw [if_neg hz] at ho2; cases ho2
    | _ => cases ho
  | lst xs =>
    cases e with
    | lst ys =>
      have ho2 : (if (xs ++ ys).length ≤ sizeLine then some (D.lst (xs ++ ys)) else none) = some z := ho
      by_cases hz : (xs ++ ys).length ≤ sizeLine
      · rw [if_pos hz] at ho2
        cases ho2
        obtain ⟨a, vs, rfl, h1, r1⟩ := rx.lst s
        obtain ⟨b, us, rfl, h2, r2⟩ := ry.lst s
        refine .inr (.inr (.inr ⟨a, b, vs, us, rfl, rfl, h1, h2, by rw [r1.len, r2.len, ← List.length_append]; exact hz, fun p n => ?_⟩))
        have al := Alloc.new (u := .lst (vs ++ us)) s n
        exact q _ _ _ al (.lst upd_same ((r1.append r2).up al.g))
      · rw [if_neg hz] at ho2; cases ho2
    | _ => cases ho
  | _ => cases ho

def ii (C : Int → Int → Bool) (f : Int → Int → D) : D → D → Option D
  | .int i, .int j => if C i j = true then some (f i j) else none
  | _, _ => none
theorem o_ii {K : PySem.W.Frag} {C : Int → Int → Bool} {C' : Int → Int → Prop} {f : Int → Int → D} {g : Int → Int → V} (hC : ∀ i j, C i j = true → C' i j) (hf : ∀ i j G, Rp K G (g i j) (f i j)) : S2 K (rI C' g) (o2 (ii C f)) := by
  intro H G x y d e z Q s rx ry ho q
  have ho : ii C f d e = some z := ho
  cases d with
  | int i =>
    cases e with
    | int j =>
      have ho2 : (if C i j = true then some (f i j) else none) = some z := ho
      by_cases hz : C i j = true
      · rw [if_pos hz] at ho2
        cases ho2
        exact ⟨i, j, rx.int, ry.int, hC i j hz, q _ _ _ (.refl s) (hf i j G)⟩
      · rw [if_neg hz] at ho2; cases ho2
    | _ => cases ho
  | _ => cases ho
def ii0 (f : Int → Int → D) : D → D → Option D
  | .int i, .int j => some (f i j)
  | _, _ => none
theorem o_ii0 {K : PySem.W.Frag} {f : Int → Int → D} {g : Int → Int → V} (hf : ∀ i j G, Rp K G (g i j) (f i j)) : S2 K (rI0 g) (o2 (ii0 f)) := by
  intro H G x y d e z Q s rx ry ho q
  have ho : ii0 f d e = some z := ho
  cases d with
  | int i =>
    cases e with
    | int j => cases ho; exact ⟨i, j, rx.int, ry.int, q _ _ _ (.refl s) (hf i j G)⟩
    | _ => cases ho
  | _ => cases ho
abbrev subD : D → D → Option D := ii0 fun i j => .int (i - j)
theorem o_sub {K : PySem.W.Frag} : S2 K (rI0 fun i j => .int (i - j)) (o2 subD) := o_ii0 fun i j G => .int _
def mulC (i j : Int) : Bool := decide (i.natAbs.log2 + j.natAbs.log2 < 1000000)
def divC (_ j : Int) : Bool := decide (j ≠ 0 ∧ j.natAbs.log2 < 9000)
def modC (_ j : Int) : Bool := decide (j ≠ 0)
def powC (i j : Int) : Bool := decide (0 ≤ j ∧ (Builtin.Int.intBits i : Int) * j ≤ 2 ^ 27)
abbrev fdivD : D → D → Option D := ii divC fun i j => .int (i.fdiv j)
abbrev modD : D → D → Option D := ii modC fun i j => .int (i.fmod j)
abbrev powD : D → D → Option D := ii powC fun i j => .int (i ^ j.toNat)
theorem op_fdivA {X : Cx} : OpR X (binaryOp .FloorDiv) (rI (fun i j => j ≠ 0 ∧ j.natAbs.log2 < 9000) fun i j => .int (i.fdiv j)) := opI fun _ _ _ _ _ _ _ hc q => PyProof.Rows.floordiv_int hc.1 q (.inl (PyProof.noPylong_of_log2 hc.2))
theorem op_powA {X : Cx} : OpR X (binaryOp .Pow) (rI (fun i j => 0 ≤ j ∧ (Builtin.Int.intBits i : Int) * j ≤ 2 ^ 27) fun i j => .int (i ^ j.toNat)) := opI fun _ _ _ _ _ _ _ hc q => PyProof.Rows.pow_int hc.1 hc.2 q
theorem o_fdiv {K : PySem.W.Frag} : S2 K (rI (fun i j => j ≠ 0 ∧ j.natAbs.log2 < 9000) fun i j => .int (i.fdiv j)) (o2 fdivD) := o_ii (fun _ _ h => of_decide_eq_true h) fun i j G => .int _
theorem o_mod {K : PySem.W.Frag} : S2 K (rI (fun _ j => j ≠ 0) fun i j => .int (i.fmod j)) (o2 modD) := o_ii (fun _ _ h => of_decide_eq_true h) fun i j G => .int _
theorem o_pow {K : PySem.W.Frag} : S2 K (rI (fun i j => 0 ≤ j ∧ (Builtin.Int.intBits i : Int) * j ≤ 2 ^ 27) fun i j => .int (i ^ j.toNat)) (o2 powD) := o_ii (fun _ _ h => of_decide_eq_true h) fun i j G => .int _

def mulO : D → D → Option MO
  | .lst xs, .int k => if -(2 ^ 63) ≤ k ∧ k < 2 ^ 63 ∧ xs.length * k.toNat ≤ sizeLine then some (.lst (List.replicate k.toNat xs).flatten) else none
  | _, _ => none
theorem o_mulO {K : PySem.W.Frag} : O2 K rRep (o2 mulO) := by
  intro H G x y d e z Q s rx ry ho q
  have ho : mulO d e = some z := ho
  cases d with
  | lst xs =>
    cases e with
    | int k =>
      obtain ⟨a, vs, rfl, h1, r1⟩ := rx.lst s
      have ho2 : (if -(2 ^ 63) ≤ k ∧ k < 2 ^ 63 ∧ xs.length * k.toNat ≤ sizeLine then some (MO.lst (List.replicate k.toNat xs).flatten) else none) = some z := ho
      by_cases hz : -(2 ^ 63) ≤ k ∧ k < 2 ^ 63 ∧ xs.length * k.toNat ≤ sizeLine
      · rw [if_pos hz] at ho2
        cases ho2
        exact ⟨a, k, vs, rfl, ry.int, h1, hz.1, hz.2.1, by rw [r1.len]; exact hz.2.2, fun p n => q p _ n ⟨_, rfl, r1.reps _⟩⟩
      · rw [if_neg hz] at ho2; cases ho2
    | _ => cases ho
  | _ => cases ho
def mulD : D → D → Option D
  | .int i, .int j => if i.natAbs.log2 + j.natAbs.log2 < 1000000 then some (.int (i * j)) else none
  | .lst xs, .int k => if -(2 ^ 63) ≤ k ∧ k < 2 ^ 63 ∧ xs.length * k.toNat ≤ sizeLine then some (.lst (List.replicate k.toNat xs).flatten) else none
  | .tup xs, .int k => if xs ≠ [] ∧ 2 ≤ k ∧ k ≤ 1000 ∧ xs.length ≤ 1000 then some (.tup (List.replicate k.toNat xs).flatten) else none
  | _, _ => none
theorem op_mulA {X : Cx} : OpR X (binaryOp .Mult) (fun x y H Q => rI CMulW (fun i j => .int (i * j)) x y H Q ∨ rRep x y H Q ∨ rRepT X.K x y H Q) := OpR.or2 op_mulW (OpR.or2 op_rep op_repT)
theorem o_mul {K : PySem.W.Frag} : S2 K (fun x y H Q => rI CMulW (fun i j => .int (i * j)) x y H Q ∨ rRep x y H Q ∨ rRepT K x y H Q) (o2 mulD) := by
  intro H G x y d e z Q s rx ry ho q
  have ho : mulD d e = some z := ho
  cases d with
  | int i =>
    cases e with
    | int j =>
      have ho2 : (if i.natAbs.log2 + j.natAbs.log2 < 1000000 then some (D.int (i * j)) else none) = some z := ho
      by_cases hz : i.natAbs.log2 + j.natAbs.log2 < 1000000
      · rw [if_pos hz] at ho2
        cases ho2
        exact .inl ⟨i, j, rx.int, ry.int, hz, q _ _ _ (.refl s) (.int _)⟩
      · rw [if_neg hz] at ho2; cases ho2
    | _ => cases ho
  | lst xs =>
    cases e with
    | int k =>
      obtain ⟨a, vs, rfl, h1, r1⟩ := rx.lst s
      have ho2 : (if -(2 ^ 63) ≤ k ∧ k < 2 ^ 63 ∧ xs.length * k.toNat ≤ sizeLine then some (D.lst (List.replicate k.toNat xs).flatten) else none) = some z := ho
      by_cases hz : -(2 ^ 63) ≤ k ∧ k < 2 ^ 63 ∧ xs.length * k.toNat ≤ sizeLine
      · rw [if_pos hz] at ho2
        cases ho2
        refine .inr (.inl ⟨a, k, vs, rfl, ry.int, h1, hz.1, hz.2.1, by rw [r1.len]; exact hz.2.2, fun p n => ?_⟩)
        have al := Alloc.new (u := .lst (List.replicate k.toNat vs).flatten) s n
        exact q _ _ _ al (.lst upd_same ((r1.reps _).up al.g))
      · rw [if_neg hz] at ho2; cases ho2
    | _ => cases ho
  | tup xs =>
    cases e with
    | int k =>
      obtain ⟨a, vs, rfl, h1, r1⟩ := rx.tup s
      have ho2 : (if xs ≠ [] ∧ 2 ≤ k ∧ k ≤ 1000 ∧ xs.length ≤ 1000 then some (D.tup (List.replicate k.toNat xs).flatten) else none) = some z := ho
      by_cases hz : xs ≠ [] ∧ 2 ≤ k ∧ k ≤ 1000 ∧ xs.length ≤ 1000
      · rw [if_pos hz] at ho2
        cases ho2
        refine .inr (.inr ⟨a, k, vs, rfl, ry.int, h1, fun z => hz.1 (by subst z; cases r1; rfl), hz.2.1, hz.2.2.1, by rw [r1.len]; exact hz.2.2.2, fun p n => ?_⟩)
        have al := Alloc.new (u := .tup (List.replicate k.toNat vs).flatten) s n
        exact q _ _ _ al (.tup (SqT.of upd_same) ((r1.reps _).up al.g))
      · rw [if_neg hz] at ho2; cases ho2
    | _ => cases ho
  | _ => cases ho

def negD : D → Option D
  | .int i => some (.int (-i))
  | _ => none
theorem o_neg {K : PySem.W.Frag} : S1 K (rU fun i => .int (-i)) (o1 negD) := by
  intro H G x d z Q s rx ho q
  have ho : negD d = some z := ho
  cases d with
  | int i => cases ho; exact ⟨i, rx.int, q _ _ _ (.refl s) (.int _)⟩
  | _ => cases ho

def cmpI (f : Int → Int → Bool) : D → D → Option D := ii0 fun i j => .bl (f i j)
theorem o_cmpI {K : PySem.W.Frag} {f : Int → Int → Bool} : SB K (rI0 fun i j => .bl (f i j)) (o2 (cmpI f)) := by
  intro H G x y d e z Q s rx ry ho q
  have ho : cmpI f d e = some z := ho
  cases d with
  | int i =>
    cases e with
    | int j => cases ho; exact ⟨i, j, rx.int, ry.int, q _ rfl⟩
    | _ => cases ho
  | _ => cases ho
abbrev ltD : D → D → Option D := cmpI fun i j => decide (i < j)
abbrev leD : D → D → Option D := cmpI fun i j => decide (i ≤ j)
abbrev gtD : D → D → Option D := cmpI fun i j => decide (j < i)
abbrev geD : D → D → Option D := cmpI fun i j => decide (j ≤ i)
/-- == of what is no object -/
def eqS : D → D → Option Bool
  | .int i, .int j => some (decide (i = j))
  | .bl i, .bl j => some (decide (i = j))
  | .str i, .str j => some (decide (i = j))
  | .non, .non => some true
  | .non, .int _ => some false
  | .int _, .non => some false
  | .non, .bl _ => some false
  | .bl _, .non => some false
  | .non, .str _ => some false
  | .str _, .non => some false
  | .int _, .str _ => some false
  | .str _, .int _ => some false
  | .bl _, .str _ => some false
  | .str _, .bl _ => some false
  | _, _ => none
def eqD (d e : D) : Option D := (eqS d e).map D.bl
def neD (d e : D) : Option D := (eqS d e).map fun b => D.bl (!b)
def toV : D → V
  | .non => .non
  | .bl b => .bl b
  | .int i => .int i
  | .str x => .str x
  | _ => .non
theorem eqS_v {K : PySem.W.Frag} {H G : Hp} {x y : V} {d e : D} {b : Bool} (rx : Rb K H G x d) (ry : Rb K H G y e) (h : eqS d e = some b) : scal x y = true ∧ decide (x = y) = b := by
  have go : x = toV d ∧ y = toV e ∧ scal (toV d) (toV e) = true ∧ decide (toV d = toV e) = b := by
    cases d <;> cases e <;> (try cases h) <;> first
      | exact ⟨rx.int, ry.int, rfl, by simp [toV]⟩
      | exact ⟨rx.bl, ry.bl, rfl, by simp [toV]⟩
      | exact ⟨rx.str, ry.str, rfl, by simp [toV]⟩
      | exact ⟨rx.non, ry.non, rfl, by simp [toV]⟩
      | exact ⟨rx.non, ry.int, rfl, by simp [toV]⟩
      | exact ⟨rx.int, ry.non, rfl, by simp [toV]⟩
      | exact ⟨rx.non, ry.bl, rfl, by simp [toV]⟩
      | exact ⟨rx.bl, ry.non, rfl, by simp [toV]⟩
      | exact ⟨rx.non, ry.str, rfl, by simp [toV]⟩
      | exact ⟨rx.str, ry.non, rfl, by simp [toV]⟩
      | exact ⟨rx.int, ry.str, rfl, by simp [toV]⟩
      | exact ⟨rx.str, ry.int, rfl, by simp [toV]⟩
      | exact ⟨rx.bl, ry.str, rfl, by simp [toV]⟩
      | exact ⟨rx.str, ry.bl, rfl, by simp [toV]⟩
  obtain ⟨e1, e2, h1, h2⟩ := go
  rw [e1, e2]
  exact ⟨h1, h2⟩
theorem o_eq {K : PySem.W.Frag} : SB K rEq (o2 eqD) := by
  intro H G x y d e z Q s rx ry ho q
  have ho : (eqS d e).map D.bl = some z := ho
  cases h : eqS d e with
  | none => rw [h] at ho; cases ho
  | some b =>
    rw [h] at ho
    cases ho
    obtain ⟨h1, h2⟩ := eqS_v rx ry h
    exact ⟨h1, by rw [h2]; exact q b rfl⟩
theorem o_ne {K : PySem.W.Frag} : SB K rNe (o2 neD) := by
  intro H G x y d e z Q s rx ry ho q
  have ho : (eqS d e).map (fun b => D.bl (!b)) = some z := ho
  cases h : eqS d e with
  | none => rw [h] at ho; cases ho
  | some b =>
    rw [h] at ho
    cases ho
    obtain ⟨h1, h2⟩ := eqS_v rx ry h
    exact ⟨h1, by rw [h2]; exact q _ rfl⟩
/-- x is None, x is not None -/
def isNon : D → Bool
  | .non => true
  | _ => false
def isD : D → D → Option D
  | d, .non => some (.bl (isNon d))
  | _, _ => none
def isnD : D → D → Option D
  | d, .non => some (.bl (!isNon d))
  | _, _ => none
theorem isNon_v {K : PySem.W.Frag} {H G : Hp} {x : V} {d : D} (rx : Rb K H G x d) : decide (x = .non) = isNon d := by
  have other : ∀ {a : Addr}, x = .ref a → decide (x = V.non) = false := fun {a} e => by rw [e]; simp
  rcases rx with rx | ⟨a, u, m, e, _, _, ed⟩
  · cases rx <;> simp [isNon]
  · rw [other e, ed]
    cases m <;> rfl
theorem o_is {K : PySem.W.Frag} : SB K (fun x y H Q => y = .non ∧ Q (.bl (decide (x = .non))) H) (o2 isD) := by
  intro H G x y d e z Q s rx ry ho q
  have ho : isD d e = some z := ho
  cases e with
  | non => cases ho; exact ⟨ry.non, by rw [isNon_v rx]; exact q _ rfl⟩
  | _ => cases d <;> cases ho
theorem o_isn {K : PySem.W.Frag} : SB K (fun x y H Q => y = .non ∧ Q (.bl (!decide (x = .non))) H) (o2 isnD) := by
  intro H G x y d e z Q s rx ry ho q
  have ho : isnD d e = some z := ho
  cases e with
  | non => cases ho; exact ⟨ry.non, by rw [isNon_v rx]; exact q _ rfl⟩
  | _ => cases d <;> cases ho

def ixD : D → D → Option D
  | .lst xs, .int i => atI xs i
  | .tup xs, .int i => atI xs i
  | .str z, .int i => if z.length ≤ sizeLine then (atI z.cps.toList i).map fun c => .str ⟨#[c]⟩ else none
  | _, _ => none
theorem atI_rp {K : PySem.W.Frag} {G : Hp} {vs : List V} {ds : List D} {i : Int} {z : D} (r : RpA K G vs ds) (h : atI ds i = some z) : ∃ v, atI vs i = some v ∧ Rp K G v z := by
  unfold atI at h ⊢
  rw [r.len]
  cases e : ixN ds.length i with
  | none => rw [e] at h; cases h
  | some j => rw [e] at h; exact r.get (i := j) h
theorem o_ix {K : PySem.W.Frag} : S2 K (rIx K) (o2 ixD) := by
  intro H G x y d e z Q s rx ry ho q
  have ho : ixD d e = some z := ho
  cases d with
  | lst xs =>
    cases e with
    | int i =>
      obtain ⟨a, vs, rfl, h1, r1⟩ := rx.lst s
      obtain ⟨v, hv, rv⟩ := atI_rp r1 ho
      exact .inl ⟨a, vs, i, v, rfl, ry.int, SqL.of h1, hv, q v _ _ (.refl s) rv⟩
    | _ => cases ho
  | tup xs =>
    cases e with
    | int i =>
      obtain ⟨a, vs, rfl, h1, r1⟩ := rx.tup s
      obtain ⟨v, hv, rv⟩ := atI_rp r1 ho
      exact .inr (.inl ⟨a, vs, i, v, rfl, ry.int, h1, hv, q v _ _ (.refl s) rv⟩)
    | _ => cases ho
  | str t =>
    cases e with
    | int i =>
      have ho2 : (if t.length ≤ sizeLine then (atI t.cps.toList i).map fun c => D.str ⟨#[c]⟩ else none) = some z := ho
      by_cases hz : t.length ≤ sizeLine
      · rw [if_pos hz] at ho2
        cases ea : atI t.cps.toList i with
        | none => rw [ea] at ho2; cases ho2
        | some c =>
          rw [ea] at ho2
          cases ho2
          exact .inr (.inr ⟨t, i, c, rx.str, ry.int, hz, ea, q _ _ _ (.refl s) (.str _)⟩)
      · rw [if_neg hz] at ho2; cases ho2
    | _ => cases ho
  | _ => cases ho

def cutL {α : Type} (xs : List α) (lo hi : Option Int) : List α := (xs.drop (HT.sIx xs.length 0 lo)).take (HT.sIx xs.length xs.length hi - HT.sIx xs.length 0 lo)
theorem RpA.cut {K : PySem.W.Frag} {G : Hp} {vs : List V} {ds : List D} (r : RpA K G vs ds) (lo hi : Option Int) : RpA K G (cutV vs lo hi) (cutL ds lo hi) := by
  unfold cutV cutL
  rw [r.len]
  exact (r.drop _).take _
def sliceO : D → Option Int → Option Int → Option MO
  | .lst xs, lo, hi => some (.lst (cutL xs lo hi))
  | .fro xs, lo, hi => some (.lst (cutL xs lo hi))
  | _, _, _ => none
def sliceD : D → Option Int → Option Int → Option D
  | .lst xs, lo, hi => some (.lst (cutL xs lo hi))
  | .tup xs, lo, hi => some (.tup (cutL xs lo hi))
  | .str z, lo, hi => if z.length ≤ sizeLine then some (.str (cutS z lo hi)) else none
  | _, _, _ => none
def evo : Option Ar → M (Option Int)
  | none => ret none
  | some a => bind (ev a) fun s ρ => match rd ρ s with
    | some (.int i) => .ok (some i) ρ
    | _ => .no
def slx {β : Type} (o : D → Option Int → Option Int → Option β) (s : Sum Nat D) (i j : Option Int) : M β := fun ρ => match rd ρ s with
  | some d => (match o d i j with
    | some z => .ok z ρ
    | none => .no)
  | none => .no
def vSl {β : Type} (o : D → Option Int → Option Int → Option β) (a : Ar) (l h : Option Ar) : M β := bind (ev a) fun s => bind (evo l) fun i => bind (evo h) fun j => slx o s i j
def rPt (K : PySem.W.Frag) (μ : Mu) (W : WX) : Option Ar → TO
  | none => tNoPart
  | some a => tPart (rAr K μ W a)
section
variable {K : PySem.W.Frag} {μ : Mu} {W : WX} {X : Cx} {σ : St} {ρ : En} {H G : Hp}
theorem evo_go {α : Type} {a : Option Ar} {k : Option Int → M α} {P : α → En → Hp → Hp → Prop} {Q : Option Int → Hp → Prop} (R : Rl K μ σ H ρ G) (h : Post K μ W σ ρ H G (bind (evo a) k ρ) P)
    (c : ∀ i ρ' H' G', Rl K μ σ H' ρ' G' → Step σ ρ H G σ ρ' H' G' → Post K μ W σ ρ' H' G' (k i ρ') P → Q i H') : rPt K μ W a σ H Q := by
  cases a with
  | none => exact c none ρ H G R (.refl _ _ _ _) h
  | some a =>
    have h2 : Post K μ W σ ρ H G (bind (ev a) (fun s => bind (fun ρ => match rd ρ s with | some (.int i) => Rs.ok (some i) ρ | _ => .no) k) ρ) P := by
      rw [← bind_assoc]; exact h
    refine ev_go R h2 fun v s ρ1 H1 G1 R1 S1 p1 h3 => ?_
    have h4 := Post.bind h3
    cases e : rd ρ1 s with
    | none => simp only [e] at h4; exact h4.elim
    | some d =>
      cases d with
      | int i =>
        simp only [e] at h4
        exact ⟨i, (p1.rb R1 e).int, c (some i) ρ1 H1 G1 R1 S1 (Post.ret R1 h4)⟩
      | _ => simp only [e] at h4; exact h4.elim
theorem slx_end {β : Type} {o : D → Option Int → Option Int → Option β} {s : Sum Nat D} {i j : Option Int} {P : β → En → Hp → Hp → Prop} (h : Post K μ W σ ρ H G (slx o s i j ρ) P) : ∃ d z, rd ρ s = some d ∧ o d i j = some z ∧ Post K μ W σ ρ H G (.ok z ρ) P := by
  unfold slx at h
  cases e : rd ρ s with
  | none => simp only [e] at h; exact h.elim
  | some d =>
    cases e2 : o d i j with
    | none => simp only [e, e2] at h; exact h.elim
    | some z => simp only [e, e2] at h; exact ⟨d, z, rfl, e2, h⟩
variable {ea : Expr} {lo hi : Option Expr} {a : Ar} {l h : Option Ar} {pos p2 : Pos}
theorem q_none : PO X none (rPt K μ W none) := po_none
theorem q_some {e : Expr} {a : Ar} (h : PE X e (rAr K μ W a)) : PO X (some e) (rPt K μ W (some a)) := po_some h
theorem v_slO (ha : PE X ea (rAr K μ W a)) (hl : PO X lo (rPt K μ W l)) (hh : PO X hi (rPt K μ W h)) (hK : X.K = K := by rfl) : PE X (.Subscript ea (.Slice lo hi none p2) pos) (lO K μ W (vSl sliceO a l h)) := by
  subst hK
  refine PE_of (pe_slice sl_list ha hl hh) fun σ H Q ⟨ρ, G, R, w⟩ => ?_
  refine ev_go R w fun v s ρ1 H1 G1 R1 S1 p1 h1 => evo_go R1 h1 fun i ρ2 H2 G2 R2 S2 h2 => evo_go R2 h2 fun j ρ3 H3 G3 R3 S3 h3 => ?_
  obtain ⟨d, z, e1, e2, h4⟩ := slx_end h3
  have rb := ((p1.up (S2.trans S3).g)).rb R3 e1
  have n0 : ∀ p, H3 p = none → H p = none := fun p n => ((S1.trans S2).trans S3).dom p n
  cases d with
  | lst xs =>
    cases e2
    obtain ⟨b, vs, rfl, k1, r1⟩ := rb.lst R3.vis
    exact ⟨b, vs, rfl, SqL.of k1, fun p n => Post.hid (z := .lst (cutL xs i j)) R3 n (n0 p n) ⟨_, rfl, r1.cut i j⟩ h4⟩
  | fro xs =>
    cases e2
    obtain ⟨b, vs, rfl, k1, r1⟩ := rb.fro R3.vis
    exact ⟨b, vs, rfl, k1, fun p n => Post.hid (z := .lst (cutL xs i j)) R3 n (n0 p n) ⟨_, rfl, r1.cut i j⟩ h4⟩
  | _ => cases e2
theorem cut_whole {α : Type} {xs : List α} {i j : Option Int} (h : HT.sIx xs.length 0 i = 0 ∧ HT.sIx xs.length xs.length j = xs.length) : cutL xs i j = xs := by
  unfold cutL
  rw [h.1, h.2]
  simp
theorem v_sl (ha : PE X ea (rAr K μ W a)) (hl : PO X lo (rPt K μ W l)) (hh : PO X hi (rPt K μ W h)) (hK : X.K = K := by rfl) : PE X (.Subscript ea (.Slice lo hi none p2) pos) (lE K μ W (vSl sliceD a l h)) := by
  subst hK
  refine PE_of (pe_slice (sl_list.or (sl_tupA.or sl_str)) ha hl hh) fun σ H Q ⟨ρ, G, R, w⟩ => ?_
  refine ev_go R w fun v s ρ1 H1 G1 R1 S1 p1 h1 => evo_go R1 h1 fun i ρ2 H2 G2 R2 S2 h2 => evo_go R2 h2 fun j ρ3 H3 G3 R3 S3 h3 => ?_
  obtain ⟨d, z, e1, e2, h4⟩ := slx_end h3
  have rb := ((p1.up (S2.trans S3).g)).rb R3 e1
  cases d with
  | lst xs =>
    cases e2
    obtain ⟨b, vs, rfl, k1, r1⟩ := rb.lst R3.vis
    refine .inl ⟨b, vs, rfl, SqL.of k1, fun p n => ?_⟩
    have al := Alloc.new (u := .lst (cutV vs i j)) R3.vis n
    exact Post.alloc R3 al h4 _ (.lst upd_same ((r1.cut i j).up al.g))
  | tup xs =>
    cases e2
    have rt := rb.tupR
    obtain ⟨b, vs, rfl, k1, r1⟩ := rb.tup R3.vis
    refine .inr (.inl ⟨b, vs, rfl, k1, fun hw => ?_, fun hw p n => ?_⟩)
    · rw [r1.len] at hw
      rw [cut_whole hw] at h4
      exact Post.ret R3 h4 _ rt
    · have al := Alloc.new (u := .tup (cutV vs i j)) R3.vis n
      exact Post.alloc R3 al h4 _ (.tup (SqT.of upd_same) ((r1.cut i j).up al.g))
  | str x =>
    have ho2 : (if x.length ≤ sizeLine then some (D.str (cutS x i j)) else none) = some z := e2
    by_cases hz : x.length ≤ sizeLine
    · rw [if_pos hz] at ho2
      cases ho2
      exact .inr (.inr ⟨x, rb.str, hz, Post.ret R3 h4 _ (.str _)⟩)
    · rw [if_neg hz] at ho2; cases ho2
  | _ => cases e2
end
end Vi

namespace Vi
open PySem PySem.Spec L2

section
variable {K : PySem.W.Frag}
def lenD : D → Option D
  | .lst xs => some (.int xs.length)
  | .tup xs => some (.int xs.length)
  | .str z => if z.length ≤ sizeLine then some (.int z.length) else none
  | _ => none
theorem o_len : SA K (fun xs H Q => ∃ x n, xs = [x] ∧ LenV K x H n ∧ Q (.int n) H) (o1 lenD) := by
  intro H G xs ds z Q s r ho q
  obtain ⟨x, d, rfl, rfl, ho, rx⟩ := r.inv1 ho
  cases d with
  | lst xs =>
    cases ho
    obtain ⟨a, vs, rfl, h1, r1⟩ := rx.lst s
    exact ⟨_, _, rfl, .inl ⟨vs, SqL.of h1, rfl⟩, by rw [r1.len]; exact q _ _ _ (.refl s) (.int _)⟩
  | tup xs =>
    cases ho
    obtain ⟨a, vs, rfl, h1, r1⟩ := rx.tup s
    exact ⟨_, _, rfl, .inr ⟨vs, h1, rfl⟩, by rw [r1.len]; exact q _ _ _ (.refl s) (.int _)⟩
  | str t =>
    have ho2 : (if t.length ≤ sizeLine then some (D.int t.length) else none) = some z := ho
    by_cases hz : t.length ≤ sizeLine
    · rw [if_pos hz] at ho2
      cases ho2
      exact ⟨_, _, rfl, by rw [rx.str]; exact ⟨hz, rfl⟩, q _ _ _ (.refl s) (.int _)⟩
    · rw [if_neg hz] at ho2; cases ho2
  | _ => cases ho
def absD : D → Option D
  | .int i => some (.int (if i < 0 then -i else i))
  | _ => none
theorem o_abs : SA K (fun xs H Q => ∃ i, xs = [.int i] ∧ Q (.int (if i < 0 then -i else i)) H) (o1 absD) := by
  intro H G xs ds z Q s r ho q
  obtain ⟨x, d, rfl, rfl, ho, rx⟩ := r.inv1 ho
  cases d with
  | int i => cases ho; rw [rx.int]; exact ⟨i, rfl, q _ _ _ (.refl s) (.int _)⟩
  | _ => cases ho
abbrev max2D : D → D → Option D := ii0 fun i j => .int (if j > i then j else i)
abbrev min2D : D → D → Option D := ii0 fun i j => .int (if j < i then j else i)
theorem o_two {g : Int → Int → Int} : SA K (fun xs H Q => ∃ i j, xs = [.int i, .int j] ∧ Q (.int (g i j)) H) (o2 (ii0 fun i j => .int (g i j))) := by
  intro H G xs ds z Q s r ho q
  obtain ⟨x, y, d, d', rfl, rfl, ho, rx, ry⟩ := r.inv2 ho
  cases d with
  | int i =>
    cases d' with
    | int j => cases ho; rw [rx.int, ry.int]; exact ⟨i, j, rfl, q _ _ _ (.refl s) (.int _)⟩
    | _ => cases ho
  | _ => cases ho
def intD : D → Option D
  | .int i => some (.int i)
  | .bl k => some (.int (if k then 1 else 0))
  | _ => none
theorem o_int : SA K (fun xs H Q => (∃ i, xs = [.int i] ∧ Q (.int i) H) ∨ ∃ k, xs = [.bl k] ∧ Q (.int (if k then 1 else 0)) H) (o1 intD) := by
  intro H G xs ds z Q s r ho q
  obtain ⟨x, d, rfl, rfl, ho, rx⟩ := r.inv1 ho
  cases d with
  | int i => cases ho; rw [rx.int]; exact .inl ⟨i, rfl, q _ _ _ (.refl s) (.int _)⟩
  | bl k => cases ho; rw [rx.bl]; exact .inr ⟨k, rfl, q _ _ _ (.refl s) (.int _)⟩
  | _ => cases ho
def intsOf : List D → Option (List Int)
  | [] => some []
  | .int i :: r => (intsOf r).map (i :: ·)
  | _ :: _ => none
theorem intsOf_eq : ∀ {ds : List D} {ns : List Int}, intsOf ds = some ns → ds = ns.map D.int
  | [], ns, h => by cases h; rfl
  | d :: ds, ns, h => by
    cases d with
    | int i =>
      have h2 : (intsOf ds).map (i :: ·) = some ns := h
      cases e : intsOf ds with
      | none => rw [e] at h2; cases h2
      | some ms =>
        rw [e] at h2
        cases h2
        rw [intsOf_eq e]
        rfl
    | _ => cases h
theorem intsOf_map : ∀ ns : List Int, intsOf (ns.map D.int) = some ns
  | [] => rfl
  | n :: ns => by
    show (intsOf (ns.map D.int)).map (n :: ·) = _
    rw [intsOf_map ns]
    rfl
def sumD : D → Option D
  | .lst xs => (intsOf xs).map fun ns => .int ns.sum
  | _ => none
theorem o_sum : SA K (rSum K) (o1 sumD) := by
  intro H G xs ds z Q s r ho q
  obtain ⟨x, d, rfl, rfl, ho, rx⟩ := r.inv1 ho
  cases d with
  | lst xs =>
    have ho2 : (intsOf xs).map (fun ns => D.int ns.sum) = some z := ho
    cases e : intsOf xs with
    | none => rw [e] at ho2; cases ho2
    | some ns =>
      rw [e] at ho2
      cases ho2
      obtain ⟨a, vs, rfl, h1, r1⟩ := rx.lst s
      rw [intsOf_eq e] at r1
      exact ⟨a, ns, rfl, by rw [← r1.of_ints]; exact SqL.of h1, q _ _ _ (.refl s) (.int _)⟩
  | _ => cases ho
def maxI : List Int → Option Int
  | [] => none
  | x :: xs => some (xs.foldl max x)
def minI : List Int → Option Int
  | [] => none
  | x :: xs => some (xs.foldl min x)
theorem foldmax : ∀ (xs : List Int) (x : Int), (xs.foldl max x = x ∨ xs.foldl max x ∈ xs) ∧ x ≤ xs.foldl max x ∧ ∀ y ∈ xs, y ≤ xs.foldl max x
  | [], x => ⟨.inl rfl, Int.le_refl _, fun y h => by cases h⟩
  | a :: xs, x => by
    obtain ⟨h1, h2, h3⟩ := foldmax xs (max x a)
    refine ⟨?_, ?_, fun y hy => ?_⟩
    · rcases h1 with h | h
      · rw [List.foldl_cons, h]
        rcases Int.le_total x a with z | z
        · rw [Int.max_eq_right z]; exact .inr List.mem_cons_self
        · rw [Int.max_eq_left z]; exact .inl rfl
      · exact .inr (List.mem_cons_of_mem _ h)
    · rw [List.foldl_cons]; exact Int.le_trans (Int.le_max_left _ _) h2
    · rw [List.foldl_cons]
      rcases List.mem_cons.mp hy with z | z
      · rw [z]; exact Int.le_trans (Int.le_max_right _ _) h2
      · exact h3 y z
theorem foldmin : ∀ (xs : List Int) (x : Int), (xs.foldl min x = x ∨ xs.foldl min x ∈ xs) ∧ xs.foldl min x ≤ x ∧ ∀ y ∈ xs, xs.foldl min x ≤ y
  | [], x => ⟨.inl rfl, Int.le_refl _, fun y h => by cases h⟩
  | a :: xs, x => by
    obtain ⟨h1, h2, h3⟩ := foldmin xs (min x a)
    refine ⟨?_, ?_, fun y hy => ?_⟩
    · rcases h1 with h | h
      · rw [List.foldl_cons, h]
        rcases Int.le_total x a with z | z
        · rw [Int.min_eq_left z]; exact .inl rfl
        · rw [Int.min_eq_right z]; exact .inr List.mem_cons_self
      · exact .inr (List.mem_cons_of_mem _ h)
    · rw [List.foldl_cons]; exact Int.le_trans h2 (Int.min_le_left _ _)
    · rw [List.foldl_cons]
      rcases List.mem_cons.mp hy with z | z
      · rw [z]; exact Int.le_trans h2 (Int.min_le_right _ _)
      · exact h3 y z
theorem maxI_ok {ns : List Int} {m : Int} (h : maxI ns = some m) : m ∈ ns ∧ ∀ y ∈ ns, y ≤ m := by
  cases ns with
  | nil => cases h
  | cons x xs =>
    cases h
    obtain ⟨h1, h2, h3⟩ := foldmax xs x
    refine ⟨h1.elim (fun z => by rw [z]; exact List.mem_cons_self) fun z => List.mem_cons_of_mem _ z, fun y hy => ?_⟩
    rcases List.mem_cons.mp hy with z | z
    · rw [z]; exact h2
    · exact h3 y z
theorem minI_ok {ns : List Int} {m : Int} (h : minI ns = some m) : m ∈ ns ∧ ∀ y ∈ ns, m ≤ y := by
  cases ns with
  | nil => cases h
  | cons x xs =>
    cases h
    obtain ⟨h1, h2, h3⟩ := foldmin xs x
    refine ⟨h1.elim (fun z => by rw [z]; exact List.mem_cons_self) fun z => List.mem_cons_of_mem _ z, fun y hy => ?_⟩
    rcases List.mem_cons.mp hy with z | z
    · rw [z]; exact h2
    · exact h3 y z
def maxLD : D → Option D
  | .lst xs => match intsOf xs with
    | some ns => (maxI ns).map D.int
    | none => none
  | _ => none
def minLD : D → Option D
  | .lst xs => match intsOf xs with
    | some ns => (minI ns).map D.int
    | none => none
  | _ => none
theorem o_maxL : SA K (rMax K) (o1 maxLD) := by
  intro H G xs ds z Q s r ho q
  obtain ⟨x, d, rfl, rfl, ho, rx⟩ := r.inv1 ho
  cases d with
  | lst xs =>
    unfold maxLD at ho
    cases e : intsOf xs with
    | none => simp only [e] at ho; cases ho
    | some ns =>
      simp only [e] at ho
      cases em : maxI ns with
      | none => rw [em] at ho; cases ho
      | some m =>
        rw [em] at ho
        cases ho
        obtain ⟨a, vs, rfl, h1, r1⟩ := rx.lst s
        rw [intsOf_eq e] at r1
        obtain ⟨k1, k2⟩ := maxI_ok em
        refine ⟨a, ns, rfl, by rw [← r1.of_ints]; exact SqL.of h1, List.length_pos_of_mem k1, fun m' h3 h4 => ?_⟩
        have e2 : m' = m := Int.le_antisymm (k2 m' h3) (h4 m k1)
        rw [e2]
        exact q _ _ _ (.refl s) (.int _)
  | _ => cases ho
theorem o_minL : SA K (rMin K) (o1 minLD) := by
  intro H G xs ds z Q s r ho q
  obtain ⟨x, d, rfl, rfl, ho, rx⟩ := r.inv1 ho
  cases d with
  | lst xs =>
    unfold minLD at ho
    cases e : intsOf xs with
    | none => simp only [e] at ho; cases ho
    | some ns =>
      simp only [e] at ho
      cases em : minI ns with
      | none => rw [em] at ho; cases ho
      | some m =>
        rw [em] at ho
        cases ho
        obtain ⟨a, vs, rfl, h1, r1⟩ := rx.lst s
        rw [intsOf_eq e] at r1
        obtain ⟨k1, k2⟩ := minI_ok em
        refine ⟨a, ns, rfl, by rw [← r1.of_ints]; exact SqL.of h1, List.length_pos_of_mem k1, fun m' h3 h4 => ?_⟩
        have e2 : m' = m := Int.le_antisymm (h4 m k1) (k2 m' h3)
        rw [e2]
        exact q _ _ _ (.refl s) (.int _)
  | _ => cases ho
/-- list(x) -/
def listO : D → Option MO
  | .lst xs => some (.lst xs)
  | .tup xs => some (.lst xs)
  | _ => none
theorem o_list : OA K (fun xs H Q => ∃ p ys, xs = [.ref p] ∧ (SqL K H p ys ∨ SqT K H p ys) ∧ ∀ l, H l = none → Q (.ref l) (upd H l (.lst ys))) (o1 listO) := by
  intro H G xs ds z Q s r ho q
  obtain ⟨x, d, rfl, rfl, ho, rx⟩ := r.inv1 ho
  cases d with
  | lst xs =>
    cases ho
    obtain ⟨a, vs, rfl, h1, r1⟩ := rx.lst s
    exact ⟨a, vs, rfl, .inl (SqL.of h1), fun l n => q l _ n ⟨vs, rfl, r1⟩⟩
  | tup xs =>
    cases ho
    obtain ⟨a, vs, rfl, h1, r1⟩ := rx.tup s
    exact ⟨a, vs, rfl, .inr h1, fun l n => q l _ n ⟨vs, rfl, r1⟩⟩
  | _ => cases ho
/-- tuple(x) -/
def tupD : D → Option D
  | .lst xs => some (.tup xs)
  | .tup xs => some (.tup xs)
  | _ => none
theorem o_tuple : SA K (fun xs H Q => ∃ p ys, xs = [.ref p] ∧ ((SqL K H p ys ∧ ∀ l, H l = none → Q (.ref l) (upd H l (.tup ys))) ∨ (SqT K H p ys ∧ Q (.ref p) H))) (o1 tupD) := by
  intro H G xs ds z Q s r ho q
  obtain ⟨x, d, rfl, rfl, ho, rx⟩ := r.inv1 ho
  cases d with
  | lst xs =>
    cases ho
    obtain ⟨a, vs, rfl, h1, r1⟩ := rx.lst s
    refine ⟨a, vs, rfl, .inl ⟨SqL.of h1, fun l n => ?_⟩⟩
    have al := Alloc.new (u := .tup vs) s n
    exact q _ _ _ al (.tup (SqT.of upd_same) (r1.up al.g))
  | tup xs =>
    cases ho
    have rt := rx.tupR
    obtain ⟨a, vs, rfl, h1, r1⟩ := rx.tup s
    exact ⟨a, vs, rfl, .inr ⟨h1, q _ _ _ (.refl s) rt⟩⟩
  | _ => cases ho
end

structure InsF (K : PySem.W.Frag) (c : Str) : Prop where
  cl : Cls K (He.ga K c)
  ha : PySem.W.findIn K (.ref (He.ga K c)) "__class__" = some (some (.builtin "object.__class__"))
  hn : PySem.W.specialIn K (.builtin "object.__class__") "__get__" = some (some (.builtin "getset_descriptor.__get__"))
  htk : PySem.W.takesIn K (.builtin "object.__class__") = some true
  hm : PySem.W.mroIn K (He.ga K c) (.type "object") = some true
  kit : ∀ T ∈ ["tuple", "list", "dict", "int", "str", "bool"], PySem.W.kitOne K (.ref (He.ga K c)) (.type T) = some false
inductive Ty where
  | non | bl | int | str | lst | tup | dic
  deriving DecidableEq
def Ty.nm : Ty → String
  | .non => "NoneType" | .bl => "bool" | .int => "int" | .str => "str" | .lst => "list" | .tup => "tuple" | .dic => "dict"
def tyD : D → Option Ty
  | .non => some .non | .bl _ => some .bl | .int _ => some .int | .str _ => some .str | .lst _ => some .lst | .tup _ => some .tup | .dic _ _ => some .dic | _ => none
/-- is a thing of the first class one of the second -/
def subT (t T : Ty) : Bool := decide (t = T) || (decide (t = .bl) && decide (T = .int))
def isiB (cs : List Str) (T : Ty) (d : D) : Option Bool := match tyD d with
  | some t => some (subT t T)
  | none => match d with
    | .ins c _ _ => if c ∈ cs then some false else none
    | _ => none
theorem kit_sub {K : PySem.W.Frag} (t T : Ty) (h : T ≠ .non) : PySem.W.kitOne K (.type t.nm) (.type T.nm) = some (subT t T) := by
  cases t <;> cases T <;> first
    | exact absurd rfl h
    | exact kit_ty (by decide +kernel)
theorem ty_of {K : PySem.W.Frag} {H G : Hp} {x : V} {d : D} {t : Ty} (s : Same G H) (r : Rb K H G x d) (h : tyD d = some t) : TyX K H x (.type t.nm) := by
  cases d with
  | non => cases h; rw [r.non]; exact .base .non
  | bl b => cases h; rw [r.bl]; exact .base (.bl b)
  | int i => cases h; rw [r.int]; exact .base (.int i)
  | str i => cases h; rw [r.str]; exact .base (.str i)
  | lst xs => cases h; obtain ⟨a, vs, rfl, h1, _⟩ := r.lst s; exact .base (.lst h1)
  | tup xs =>
    cases h
    obtain ⟨a, vs, rfl, h1, _⟩ := r.tup s
    rcases h1 with (h1 | ⟨o, h1⟩) | ⟨o, its, n, h1, h2, _⟩
    · exact .base (.tup h1)
    · exact .fTuple h1
    · exact .kTuple h1 h2
  | dic ks ds => cases h; obtain ⟨a, kvs, rfl, h1, _⟩ := r.dic s; exact .base (.dK h1)
  | fro xs => cases h
  | ins c ns ds => cases h
theorem isi_kit {K : PySem.W.Frag} {H G : Hp} {x : V} {d : D} {cs : List Str} (s : Same G H) (r : Rb K H G x d) (hI : ∀ c ∈ cs, InsF K c) {T : Ty} {b : Bool} (h : isiB cs T d = some b) (hT : T ≠ .non) :
    ∃ t, TyX K H x t ∧ (∀ T' b', isiB cs T' d = some b' → T' ≠ .non → PySem.W.kitOne K t (.type T'.nm) = some b') := by
  unfold isiB at h
  cases e : tyD d with
  | some t =>
    refine ⟨_, ty_of s r e, fun T' b' h' n => ?_⟩
    unfold isiB at h'
    rw [e] at h'
    cases h'
    exact kit_sub t T' n
  | none =>
    rw [e] at h
    cases d with
    | ins c ns ds =>
      have h2 : (if c ∈ cs then some false else none) = some b := h
      by_cases hc : c ∈ cs
      · obtain ⟨a, dx, fs, rfl, h1, _⟩ := r.ins s
        have F := hI c hc
        refine ⟨_, .base (.ins h1 F.cl F.ha F.hn F.htk F.hm), fun T' b' h' n => ?_⟩
        have h3 : (if c ∈ cs then some false else none) = some b' := h'
        rw [if_pos hc] at h3
        cases h3
        exact F.kit T'.nm (by cases T' <;> first | exact absurd rfl n | decide)
      · rw [if_neg hc] at h2; cases h2
    | _ => cases h
def isi1 (cs : List Str) (T : Ty) : List D → Option D := o1 fun d => (isiB cs T d).map D.bl
def anyB (cs : List Str) (d : D) : List Ty → Option Bool
  | [] => some false
  | T :: Ts => match isiB cs T d with
    | some true => some true
    | some false => anyB cs d Ts
    | none => none
def isiT (cs : List Str) (Ts : List Ty) : List D → Option D := o1 fun d => (anyB cs d Ts).map D.bl
section
variable {K : PySem.W.Frag} {μ : Mu} {W : WX} {X : Cx} {a : Ar} {e : Expr} {p pos : Pos}
def tTys : List Ty → TA
  | [] => tNil
  | T :: Ts => tCons (tC (.ty T.nm)) (tTys Ts)
theorem tTys_go {Ts : List Ty} {σ : St} : ∀ {H : Hp} {Q : List V → Hp → Prop}, Q (Ts.map fun T => .ty T.nm) H → tTys Ts σ H Q := by
  induction Ts with
  | nil => exact fun h => h
  | cons T Ts ih => exact fun {H Q} h => ih (Q := fun xs H => Q (.ty T.nm :: xs) H) h
theorem cls_tys : ∀ Ts : List Ty, Paired ClsV (Ts.map fun T => V.ty T.nm) (Ts.map fun T => Value.type T.nm)
  | [] => .nil
  | T :: Ts => .cons (.ty _) (cls_tys Ts)
theorem any_kit {cs : List Str} {d : D} {t : Value} (h : ∀ T' b', isiB cs T' d = some b' → T' ≠ .non → PySem.W.kitOne K t (.type T'.nm) = some b') : ∀ {Ts : List Ty} {b : Bool}, (∀ T ∈ Ts, T ≠ .non) → anyB cs d Ts = some b → PySem.W.kitAny K t (Ts.map fun T => Value.type T.nm) = some b
  | [], b, _, e => by cases e; rfl
  | T :: Ts, b, hn, e => by
    unfold anyB at e
    cases q : isiB cs T d with
    | none => simp only [q] at e; cases e
    | some k =>
      have k1 := h T k q (hn T List.mem_cons_self)
      cases k with
      | true =>
        simp only [q] at e
        cases e
        exact kitAny_cons k1 (fun z => by cases z) fun _ => rfl
      | false =>
        simp only [q] at e
        exact kitAny_cons k1 (fun _ => any_kit h (fun T hT => hn T (List.mem_cons_of_mem _ hT)) e) fun z => by cases z
/-- a built-in class as a value -/
theorem c_ty {x : Str} {T : Ty} (hg : Gl X x) (hm : X.mg x = none) (hv : bootBuiltins x = some (.type T.nm)) (hn : x ≠ "__name__" := by decide) (hd : (x == ("__debug__" : Str)) = false := by decide) : PE X (.Name x p) (tC (.ty T.nm)) := pe_bltn hg hm hv rfl hn hd
theorem v_isi {cs : List Str} {T : Ty} {x : Str} {p2 : Pos} (hI : ∀ c ∈ cs, InsF K c) (hT : T ≠ .non) (hg : Gl X "isinstance") (hm : X.mg "isinstance" = none) (ha : PE X e (rAr K μ W a)) (hb : PE X (.Name x p2) (tC (.ty T.nm)))
    (he : starEach [e, .Name x p2] X.env = (false, eval e X.env) :: starEach [.Name x p2] X.env := by rfl) (he2 : starEach [.Name x p2] X.env = (false, eval (.Name x p2) X.env) :: starEach [] X.env := by rfl) (hpl : (backTo pos (starEach [.Name x p2] X.env)).any (·.1) = false := by rfl) (hK : X.K = K := by rfl) :
    PE X (.Call (.Name "isinstance" p) [e, .Name x p2] [] pos) (lE K μ W (opv [a] (isi1 cs T))) := by
  subst hK
  refine PE_of (pe_callB call_isi hg hm (by decide +kernel) (pa_cons ha (pa_cons hb pa_nil he2) he) (by decide) (by decide) he hpl) fun σ H Q w => ?_
  have h2 : rAr X.K μ W a σ H fun x H1 => rIsi X.K [x, .ty T.nm] H1 Q := by
    refine go1 (o := isi1 cs T) (r := fun x H1 Q => rIsi X.K [x, .ty T.nm] H1 Q) (fun H G x d z Q s rx ho q => ?_) w
    have ho2 : (isiB cs T d).map D.bl = some z := ho
    cases e : isiB cs T d with
    | none => rw [e] at ho2; cases ho2
    | some b =>
      rw [e] at ho2
      cases ho2
      obtain ⟨t, h1, h2⟩ := isi_kit s rx hI e hT
      exact ⟨x, _, t, _, b, rfl, .ty _, h1, h2 T b e hT, q _ _ _ (.refl s) (.bl b)⟩
  exact h2
theorem v_isiT {cs : List Str} {Ts : List Ty} {es : List Expr} {x1 : Nat} {p2 : Pos} (hI : ∀ c ∈ cs, InsF K c) (hT : ∀ T ∈ Ts, T ≠ .non) (h0 : Ts ≠ []) (hg : Gl X "isinstance") (hm : X.mg "isinstance" = none) (ha : PE X e (rAr K μ W a)) (hb : PA X es (tTys Ts)) (hl : Ts.length ≤ sizeLine)
    (he : starEach [e, .Tuple es x1 p2] X.env = (false, eval e X.env) :: starEach [.Tuple es x1 p2] X.env := by rfl) (he2 : starEach [.Tuple es x1 p2] X.env = (false, eval (.Tuple es x1 p2) X.env) :: starEach [] X.env := by rfl) (hpl : (backTo pos (starEach [.Tuple es x1 p2] X.env)).any (·.1) = false := by rfl) (hK : X.K = K := by rfl) :
    PE X (.Call (.Name "isinstance" p) [e, .Tuple es x1 p2] [] pos) (lE K μ W (opv [a] (isiT cs Ts))) := by
  subst hK
  refine PE_of (pe_callB call_isiT hg hm (by decide +kernel) (pa_cons ha (pa_cons (pe_tup hb) pa_nil he2) he) (by decide) (by decide) he hpl) fun σ H Q w => ?_
  obtain ⟨ρ, G, R, w⟩ := w
  unfold opv at w
  rw [evs1] at w
  refine ev_go R w fun x s ρ1 H1 G1 R1 S1 p1 h1 => ?_
  obtain ⟨ds, z, e1, e2, h2⟩ := opv_end h1
  obtain ⟨d, rfl, f1⟩ := rds1 e1
  have rb := p1.rb R1 f1
  have ho2 : (anyB cs d Ts).map D.bl = some z := e2
  cases ea : anyB cs d Ts with
  | none => rw [ea] at ho2; cases ho2
  | some b =>
    rw [ea] at ho2
    cases ho2
    obtain ⟨T0, Tr, rfl⟩ : ∃ T0 Tr, Ts = T0 :: Tr := by
      cases Ts with
      | nil => exact absurd rfl h0
      | cons T0 Tr => exact ⟨T0, Tr, rfl⟩
    obtain ⟨b0, hb0⟩ : ∃ b0, isiB cs T0 d = some b0 := by
      unfold anyB at ea
      cases q : isiB cs T0 d with
      | none => simp only [q] at ea; cases ea
      | some k => exact ⟨k, rfl⟩
    refine tTys_go (Q := fun xs H1 => xs.length ≤ sizeLine ∧ ∀ p, H1 p = none → rIsiT X.K [x, .ref p] (upd H1 p (.tup xs)) Q) ⟨by rw [List.length_map]; exact hl, fun p n => ?_⟩
    have al := Alloc.new (u := .tup ((T0 :: Tr).map fun T => V.ty T.nm)) R1.vis n
    have rb2 : Rb X.K (upd H1 p (.tup ((T0 :: Tr).map fun T => V.ty T.nm))) (upd G1 p (.tup ((T0 :: Tr).map fun T => V.ty T.nm))) x d := by
      rcases rb with r | ⟨a, u, m, e, h, r, ed⟩
      · exact .inl (r.up al.g)
      · exact .inr ⟨a, u, m, e, al.h _ _ h, r.up al.g, ed⟩
    obtain ⟨t, k1, k2⟩ := isi_kit al.v rb2 hI hb0 (hT T0 List.mem_cons_self)
    exact ⟨x, p, _, t, _, b, rfl, upd_same, cls_tys _, k1, any_kit k2 hT ea, Post.alloc R1 al h2 _ (.bl b)⟩
end
end Vi

namespace Vi
open PySem PySem.Spec L2

/-- the def that the module's name x stands for keeps the promise F -/
structure FK (P : Program) (w : World) (K : PySem.W.Frag) (mg : Str → Option Value) (base : Heap) (k n : Nat) (x : Str) (ps : List Str) (F : FN) : Prop where
  ex : ∃ fd, FnG P w K mg base (L2.CX P w) k (He.ga K x) fd ps (spF K n F) ∧ Binds K fd ps []
  kp : PySem.W.keepIn K (.ref (He.ga K x)) = true
  g : mg x = some (.ref (He.ga K x))
structure FKO (P : Program) (w : World) (K : PySem.W.Frag) (mg : Str → Option Value) (base : Heap) (k n : Nat) (x : Str) (ps : List Str) (F : FO) : Prop where
  ex : ∃ fd, FnG P w K mg base (L2.CX P w) k (He.ga K x) fd ps (spO K n F) ∧ Binds K fd ps []
  kp : PySem.W.keepIn K (.ref (He.ga K x)) = true
  g : mg x = some (.ref (He.ga K x))
section
variable {K : PySem.W.Frag} {μ : Mu} {W : WX} {X : Cx} {j k n i : Nat} {ps : List Str} {F : FN} {FO' : FO} {fs : List (M D)} {x : Str} {p pos : Pos} {e : Expr} {es : List Expr}
theorem v_fk (h : FK X.prog X.w X.K X.mg X.base j n x ps F) (hr : RoomG k X.A) (hk : j ≤ k) (hg : Gl X x) (tk : Takes X W) (ha : PA X (e :: es) (rDs K μ W fs)) (hn : fs.length = n := by rfl) (hdb : (x == ("__debug__" : Str)) = false := by decide) (he : starEach (e :: es) X.env = (false, eval e X.env) :: starEach es X.env := by rfl) (hpl : (backTo pos (starEach es X.env)).any (·.1) = false := by rfl) (hK : X.K = K := by rfl) :
    PE X (.Call (.Name x p) (e :: es) [] pos) (lE K μ W (vCall F fs)) := by
  subst hK
  obtain ⟨⟨fd, h1, h2⟩, kp, g⟩ := h
  exact v_call h1 (hr.mono hk) hg g kp h2 tk ha hn hdb he hpl
theorem v_fkO (h : FKO X.prog X.w X.K X.mg X.base j n x ps FO') (hr : RoomG k X.A) (hk : j ≤ k) (hg : Gl X x) (tk : Takes X W) (ha : PA X (e :: es) (rDs K μ W fs)) (hn : fs.length = n := by rfl) (hdb : (x == ("__debug__" : Str)) = false := by decide) (he : starEach (e :: es) X.env = (false, eval e X.env) :: starEach es X.env := by rfl) (hpl : (backTo pos (starEach es X.env)).any (·.1) = false := by rfl) (hK : X.K = K := by rfl) :
    PE X (.Call (.Name x p) (e :: es) [] pos) (lO K μ W (vCallO FO' fs)) := by
  subst hK
  obtain ⟨⟨fd, h1, h2⟩, kp, g⟩ := h
  exact v_callO h1 (hr.mono hk) hg g kp h2 tk ha hn hdb he hpl
theorem v_fkM (h : FK X.prog X.w X.K X.mg X.base j n x ps F) (hr : RoomG k X.A) (hk : j ≤ k) (hg : Gl X x) (tk : Takes X W) (ha : PA X (e :: es) (tCons (tVar i) (rDs K μ W fs))) (hn : fs.length + 1 = n := by rfl) (hdb : (x == ("__debug__" : Str)) = false := by decide) (he : starEach (e :: es) X.env = (false, eval e X.env) :: starEach es X.env := by rfl) (hpl : (backTo pos (starEach es X.env)).any (·.1) = false := by rfl) (hK : X.K = K := by rfl) :
    PE X (.Call (.Name x p) (e :: es) [] pos) (lE K μ W (vCallM F i fs)) := by
  subst hK
  obtain ⟨⟨fd, h1, h2⟩, kp, g⟩ := h
  exact v_callM h1 (hr.mono hk) hg g kp h2 tk ha hn hdb he hpl
/-- a module's constant -/
theorem g_int {v : Int} (h : ∃ t, X.mg x = some (.int v t)) (hg : Gl X x) (hd : (x == ("__debug__" : Str)) = false := by decide) : PE X (.Name x pos) (lE K μ W (ret (.int v))) :=
  h.elim fun t e => v_c (pe_glob (v := .int v) hg e ⟨_, rfl⟩ hd) fun _ _ => .int v
end
section
variable {P : Program} {w : World} {K : PySem.W.Frag} {mg : Str → Option Value} {base : Heap} {x qual : Str} {params : Arguments} {body : List Stmt} {scope : Scope} {k n : Nat} {N ps : List Str} {b : VS}
theorem spF_len {F : FN} (hn : n = ps.length) : ∀ vs H Q E, spF K n F vs H Q E → vs.length = ps.length := fun vs H Q E ⟨args, G, μ, R, _, hl, _⟩ => by
  have := R.len; rw [List.length_map] at this; omega
theorem spO_len {F : FO} (hn : n = ps.length) : ∀ vs H Q E, spO K n F vs H Q E → vs.length = ps.length := fun vs H Q E ⟨args, G, μ, R, _, hl, _⟩ => by
  have := R.len; rw [List.length_map] at this; omega
theorem fk_mk {y : Str} (F : ∃ fd, FunD K x qual params body scope [] [] (He.ga K y) fd) (g : mg y = some (.ref (He.ga K y))) (S : FnScope N ps scope) (hn : n = ps.length) (hN : n ≤ N.length)
    (hb : ∀ (kV doc pm : Value) (an : Option Addr) (cdv ct : Value) (us : List Value), us.length = ps.length → bindArgs (PySem.W.fnOf x qual params body scope .none kV doc pm an cdv ct) ⟨us, []⟩ = pure (ps.zip us))
    (h : ∀ (f : Addr) (cdv : Value) (A : Around) (outer : List Env) (s : Shared) (H : Hp) (E : XK) (μ : Mu), RoomG k (A.deeper (PyProof.Rows.envOfC qual scope s.heap.objs.size f cdv)) →
      Takes (cxOf (L2.CX P w) P w K mg base N qual scope f cdv A outer s H E) (fun cls d _ H => E cls d H) → (∀ E', PassesOwn (model P w) (A.deeper (PyProof.Rows.envOfC qual scope s.heap.objs.size f cdv)) (PyProof.Rows.envOfC qual scope s.heap.objs.size f cdv) (cxOf (L2.CX P w) P w K mg base N qual scope f cdv A outer s H E').xe) →
      PSs (cxOf (L2.CX P w) P w K mg base N qual scope f cdv A outer s H E) body (lS K μ (fun cls d _ H => E cls d H) b)) : FK P w K mg base (k + 1) n y ps (runF n N.length b) := by
  obtain ⟨fd, F⟩ := F
  refine ⟨⟨fd, fnG_of F S (spF_len hn) (fun cdv A outer s H vs Q E hr q => ?_), F.bindsN hb⟩, F.kp, g⟩
  obtain ⟨μ, q⟩ := body_ok hN q
  exact ⟨_, h _ cdv A outer s H E μ hr (takes_of rfl rfl rfl rfl) (fun E' => passes_of rfl), q⟩
theorem fk_mkO {y : Str} (F : ∃ fd, FunD K x qual params body scope [] [] (He.ga K y) fd) (g : mg y = some (.ref (He.ga K y))) (S : FnScope N ps scope) (hn : n = ps.length) (hN : n ≤ N.length)
    (hb : ∀ (kV doc pm : Value) (an : Option Addr) (cdv ct : Value) (us : List Value), us.length = ps.length → bindArgs (PySem.W.fnOf x qual params body scope .none kV doc pm an cdv ct) ⟨us, []⟩ = pure (ps.zip us))
    (h : ∀ (f : Addr) (cdv : Value) (A : Around) (outer : List Env) (s : Shared) (H : Hp) (E : XK) (μ : Mu), RoomG k (A.deeper (PyProof.Rows.envOfC qual scope s.heap.objs.size f cdv)) →
      Takes (cxOf (L2.CX P w) P w K mg base N qual scope f cdv A outer s H E) (fun cls d _ H => E cls d H) → (∀ E', PassesOwn (model P w) (A.deeper (PyProof.Rows.envOfC qual scope s.heap.objs.size f cdv)) (PyProof.Rows.envOfC qual scope s.heap.objs.size f cdv) (cxOf (L2.CX P w) P w K mg base N qual scope f cdv A outer s H E').xe) →
      PSs (cxOf (L2.CX P w) P w K mg base N qual scope f cdv A outer s H E) body (lS K μ (fun cls d _ H => E cls d H) b)) : FKO P w K mg base (k + 1) n y ps (runO n N.length b) := by
  obtain ⟨fd, F⟩ := F
  refine ⟨⟨fd, fnG_of F S (spO_len hn) (fun cdv A outer s H vs Q E hr q => ?_), F.bindsN hb⟩, F.kp, g⟩
  obtain ⟨μ, q⟩ := body_okO hN q
  exact ⟨_, h _ cdv A outer s H E μ hr (takes_of rfl rfl rfl rfl) (fun E' => passes_of rfl), q⟩
end
/-- enough turns for a while that lowers an int -/
def fuelE (ρ : En) : Nat := 2 + (ρ.map fun s => match s with
  | .dat (.int i) => i.natAbs
  | _ => 0).sum
end Vi

namespace Vi
open PySem PySem.Spec L2

def SIt : Bool → Heap → Addr → Addr → Nat → Prop
  | true, h, it, l, i => h.IsListIter it l i
  | false, h, it, l, i => h.IsTupleIter it l i
def SSq : Bool → Heap → Addr → Array Value → Prop
  | true, h, l, xs => h.IsList l xs
  | false, h, l, xs => h.IsTuple l xs
theorem SIt.eb {c : Bool} {h h' : Heap} {a b l : Addr} {i : Nat} (x : SIt c h a l i) (hs : Heap.ExtBut b h h') (hab : a ≠ b) : SIt c h' a l i := by
  cases c with
  | true => exact Heap.IsListIter.extBut x hs hab
  | false => exact Heap.IsTupleIter.extBut x hs hab
theorem SIt.at {c : Bool} {h h' : Heap} {a l : Addr} {i : Nat} (x : SIt c h a l i) (e : ∀ o, h.get? a = some o → h'.get? a = some o) : SIt c h' a l i := by
  cases c with
  | true => exact Heap.IsListIter.at x e
  | false => exact Heap.IsTupleIter.at x e
theorem SSq.eb {c : Bool} {h h' : Heap} {a b : Addr} {xs : Array Value} (x : SSq c h a xs) (hs : Heap.ExtBut b h h') (hab : a ≠ b) : SSq c h' a xs := by
  cases c with
  | true => exact Heap.IsList.extBut x hs hab
  | false => exact Heap.IsTuple.extBut x hs hab
theorem SIt.get {c : Bool} {h : Heap} {a l : Addr} {i : Nat} (x : SIt c h a l i) : ∃ o, h.get? a = some o ∧ o.data = .fields #[.ref l, .int i 0] := by
  cases c with
  | true => obtain ⟨o, h1, _, h2⟩ := x; exact ⟨o, h1, h2⟩
  | false => obtain ⟨o, h1, _, h2⟩ := x; exact ⟨o, h1, h2⟩
section
variable {prog : Program} {w : World} {A : Around} {E : Value → Shared → Prop} {s : Shared}
theorem side_item {c : Bool} {it l : Addr} {i : Nat} {items : Array Value} {x : Value} {Q : Value → Shared → Prop} (h1 : SIt c s.heap it l i) (h2 : SSq c s.heap l items) (hx : items[i]? = some x)
    (hQ : ∀ h', SIt c h' it l (i + 1) → Heap.SameBut it s.heap h' → Q x { s with heap := h' }) : wpAny (model prog w) A (Builtin.SmallTypes.nextOf (.ref it)) Q E s := by
  cases c with
  | true => exact wpAny_nextOf_list_item h1 h2 hx hQ
  | false => exact RZ.nextOf_tuple_item h1 h2 hx hQ
theorem side_end {c : Bool} {it l : Addr} {i : Nat} {items : Array Value} {Q : Value → Shared → Prop} (hh : A.handled = none) (h1 : SIt c s.heap it l i) (h2 : SSq c s.heap l items) (hx : items[i]? = none)
    (hE : ∀ h' e, Heap.ExtBut it s.heap h' → (∃ o, h'.get? e = some o ∧ o.cls = .type "StopIteration") → E (.ref e) { s with heap := h' }) : wpAny (model prog w) A (Builtin.SmallTypes.nextOf (.ref it)) Q E s := by
  cases c with
  | true => exact wpAny_nextOf_list_end hh h1 h2 hx hE
  | false => exact RZ.nextOf_tuple_end hh h1 h2 hx hE

def itO (c : Bool) (l : Addr) : Obj := { cls := .type (if c then "list_iterator" else "tuple_iterator"), data := .fields #[.ref l, .int 0 0] }
theorem itO_free {c : Bool} {l : Addr} : (itO c l).isFreed = false := rfl
theorem side_new {c : Bool} {l : Addr} {items : Array Value} {Q : Value → Shared → Prop} (hl : SSq c s.heap l items) (hQ : Q (.ref s.heap.objs.size) { s with heap := s.heap.push (itO c l) }) :
    wpAny (model prog w) A (pyIter (.ref l)) Q E s := by
  cases c with
  | true => exact wpAny_pyIter_list hl hQ
  | false => exact wpAny_pyIter_tuple hl hQ
theorem side_begin {c : Bool} {h : Heap} {it l : Addr} (e : h.get? it = some (itO c l)) : SIt c h it l 0 := by
  cases c with
  | true => exact ⟨_, e, rfl, rfl⟩
  | false => exact ⟨_, e, rfl, rfl⟩
theorem SSq.push {c : Bool} {h : Heap} {l : Addr} {xs : Array Value} (x : SSq c h l xs) (o : Obj) : SSq c (h.push o) l xs := by
  cases c with
  | true => exact Heap.IsList.push x o
  | false => exact Heap.IsTuple.push x o

abbrev zb (c d : Bool) (a b : Addr) (h : Heap) : Heap := (h.push (itO c a)).push (itO d b)
abbrev zT (c d : Bool) (a b : Addr) (h : Heap) : Heap := (zb c d a b h).push { cls := .type "tuple", data := .seq #[.ref h.objs.size, .ref (h.push (itO c a)).objs.size] }
abbrev zO (c d : Bool) (a b : Addr) (h : Heap) : Heap := (zT c d a b h).push { cls := .type "tuple", data := .seq #[.none, .none] }
abbrev zZ (c d : Bool) (a b : Addr) (h : Heap) : Heap := (zO c d a b h).push { cls := .type "zip", data := .fields #[.none, .bool false, .bool false, .ref (zb c d a b h).objs.size, .ref (zT c d a b h).objs.size] }
theorem zip_new (c d : Bool) (a b : Addr) (xs ys : Array Value) :
    Meets (Builtin.«zip.__new__» ⟨[.type "zip", .ref a, .ref b], []⟩) fun _ R s => SSq c s.heap a xs ∧ SSq d s.heap b ys ∧ R (.ok (.ret (.ref (zO c d a b s.heap).objs.size))) { s with heap := zZ c d a b s.heap } :=
  .of_wp fun prog w A R s h => by
    obtain ⟨hp, g, dr, tk, os⟩ := s
    obtain ⟨hx, hy, h⟩ := h
    have sub := sub_zip
    have hx' : SSq c (Shared.heap ⟨hp, g, dr, tk, os⟩) a xs := hx
    have hy' : SSq d (Shared.heap ⟨hp.push (itO c a), g, dr, tk, os⟩) b ys := hy.push _
    wp_walk using side_new hx', side_new hy'
    exact ⟨_, rfl, h⟩
theorem zip_call {c d : Bool} {a b : Addr} {xs ys : Array Value} {Q : Value → Shared → Prop} (hx : SSq c s.heap a xs) (hy : SSq d s.heap b ys)
    (h : ∀ h' n, n = s.heap.objs.size → IsZip h' (n + 4) (n + 2) (n + 3) .none → IsPair h' (n + 2) (.ref n) (.ref (n + 1)) → IsPair h' (n + 3) .none .none → SIt c h' n a 0 → SIt d h' (n + 1) b 0 →
      (∀ b o, s.heap.get? b = some o → h'.get? b = some o) → Q (.ref (n + 4)) { s with heap := h' }) : wpAny (model prog w) A (call (.type "zip") [.ref a, .ref b]) Q E s := by
  refine callType_new F.called_zip (by decide) (F.typeCall_zip_2 _ _) (F.newCall_zip_2 _ _) (fun obj => F.args_object_init_3 obj _ _) F.entry_zip_new (zip_new c d a b xs ys) ⟨hx, hy, ?_⟩
  have e1 : (s.heap.push (itO c a)).objs.size = s.heap.objs.size + 1 := Heap.size_push ..
  have e2 : (zb c d a b s.heap).objs.size = s.heap.objs.size + 2 := by rw [Heap.size_push, e1]
  have e3 : (zT c d a b s.heap).objs.size = s.heap.objs.size + 3 := by rw [Heap.size_push, e2]
  have e4 : (zO c d a b s.heap).objs.size = s.heap.objs.size + 4 := by rw [Heap.size_push, e3]
  have f5 : (zZ c d a b s.heap).get? (zO c d a b s.heap).objs.size = some _ := Heap.get?_push_size _ rfl
  have f4 : (zZ c d a b s.heap).get? (zT c d a b s.heap).objs.size = some _ := Heap.get?_push_of_some _ (Heap.get?_push_size _ rfl)
  have f3 : (zZ c d a b s.heap).get? (zb c d a b s.heap).objs.size = some _ := Heap.get?_push_of_some _ (Heap.get?_push_of_some _ (Heap.get?_push_size _ rfl))
  have f2 : (zZ c d a b s.heap).get? (s.heap.push (itO c a)).objs.size = some (itO d b) := Heap.get?_push_of_some _ (Heap.get?_push_of_some _ (Heap.get?_push_of_some _ (Heap.get?_push_size _ rfl)))
  have f1 : (zZ c d a b s.heap).get? s.heap.objs.size = some (itO c a) := Heap.get?_push_of_some _ (Heap.get?_push_of_some _ (Heap.get?_push_of_some _ (Heap.get?_push_of_some _ (Heap.get?_push_size _ rfl))))
  have keep : ∀ b' o, s.heap.get? b' = some o → (zZ c d a b s.heap).get? b' = some o := fun _ _ x => Heap.get?_push_of_some _ (Heap.get?_push_of_some _ (Heap.get?_push_of_some _ (Heap.get?_push_of_some _ (Heap.get?_push_of_some _ x))))
  show _ ∧ _
  rw [e4, e2, e3] at f5
  rw [e1, e2] at f3
  rw [e3] at f4
  rw [e1] at f2
  rw [e4]
  exact ⟨⟨_, f5, rfl⟩, h _ _ rfl f5 f3 f4 (side_begin f1) (side_begin f2) keep⟩
end
end Vi

namespace Vi
open PySem PySem.Spec L2
section
variable {prog : Program} {w : World} {A : Around} {E : Value → Shared → Prop} {s : Shared} {c d : Bool} {z TI TO i1 i2 l1 l2 : Addr} {k1 k2 : Nat} {xs ys : Array Value} {x y a b : Value}
/-- what stands there between two turns -/
structure ZSt (c d : Bool) (h : Heap) (z TI TO i1 i2 l1 l2 : Addr) (k1 k2 : Nat) (f0 a b : Value) : Prop where
  z : IsZip h z TI TO f0
  i : IsPair h TI (.ref i1) (.ref i2)
  o : IsPair h TO a b
  l : SIt c h i1 l1 k1
  r : SIt d h i2 l2 k2
theorem ZSt.nexts (D : ZipApart z TI TO i1 i2 l1 l2) (S : ZSt c d s.heap z TI TO i1 i2 l1 l2 k1 k2 .none a b) (hx : SSq c s.heap l1 xs) (hy : SSq d s.heap l2 ys) (ex : xs[k1]? = some x) (ey : ys[k2]? = some y) {Q : Value → Shared → Prop}
    (hQ : ∀ h', ZSt c d h' z TI TO i1 i2 l1 l2 (k1 + 1) (k2 + 1) (rawInt s.heap.objs.size) x y → IsPair h' s.heap.objs.size x y →
      (∀ b o, b ≠ z → b ≠ TO → b ≠ i1 → b ≠ i2 → s.heap.get? b = some o → h'.get? b = some o) → Q (.ref s.heap.objs.size) { s with heap := h' }) :
    wpAny (model prog w) A (Builtin.«zip.__next__» ⟨[.ref z], []⟩) (fun fin s' => ∃ v, fin = .done (.ret v) ∧ Q v s') E s := by
  show wpAny _ _ (field (.ref z) 2 >>= _) _ _ _
  refine wpAny_bind (wpAny_field S.z rfl (x := .bool false) rfl ?_)
  show wpAny _ _ (field (.ref z) 3 >>= _) _ _ _
  refine wpAny_bind (wpAny_field S.z rfl (x := .ref TI) rfl (wpAny_bind (wpAny_seqItems S.i rfl ?_)))
  show wpAny _ _ (Builtin.SmallTypes.ownedTupleIsFree (.ref z) >>= _) _ _ _
  unfold Builtin.SmallTypes.ownedTupleIsFree
  refine wpAny_bind (wpAny_bind (wpAny_field S.z rfl (x := .none) rfl (wpAny_pure ?_)))
  simp only [if_true]
  refine wpAny_bind (wpAny_rule (wpAny_bind (wpAny_field S.z rfl (x := .ref TO) rfl (wpAny_bind (wpAny_setField_rec S.z (by simp) fun h1 z1 s1 => wpAny_bind ?_)))))
  have z1' : IsZip h1 z TI TO .ellipsis := z1
  simp only [List.zipIdx_cons, List.zipIdx_nil, List.forIn_cons, List.forIn_nil]
  refine wpAny_bind (wpAny_bind (wpAny_onRaise ?_))
  show wpAny _ _ (Builtin.SmallTypes.nextOf (.ref i1) >>= _) _ _ _
  refine wpAny_bind (side_item (S.l.eb s1.extBut D.i1z) (hx.eb s1.extBut D.l1z) ex fun h2 l2' s2 => wpAny_pure ?_)
  have o2 : IsPair h2 TO a b := s2.extBut _ _ D.TOi1 (s1.extBut _ _ D.TOz S.o)
  refine wpAny_bind (wpAny_seqItems o2 rfl (wpAny_bind (wpAny_updateSeq_pair o2 fun h3 o3 s3 => wpAny_bind (wpAny_letGo (wpAny_pure ?_)))))
  have o3' : IsPair h3 TO x b := o3
  refine wpAny_bind (wpAny_bind (wpAny_onRaise ?_))
  show wpAny _ _ (Builtin.SmallTypes.nextOf (.ref i2) >>= _) _ _ _
  have r3 : SIt d h3 i2 l2 k2 := ((S.r.eb s1.extBut D.i2z).eb s2.extBut D.i12.symm).eb s3.extBut D.TOi2.symm
  have y3 : SSq d h3 l2 ys := ((hy.eb s1.extBut D.l2z).eb s2.extBut D.l2i1).eb s3.extBut D.l2TO
  refine wpAny_bind (side_item r3 y3 ey fun h4 r4 s4 => wpAny_pure ?_)
  have o4 : IsPair h4 TO x b := s4.extBut _ _ D.TOi2 o3'
  refine wpAny_bind (wpAny_seqItems o4 rfl (wpAny_bind (wpAny_updateSeq_pair o4 fun h5 o5 s5 => wpAny_bind (wpAny_letGo (wpAny_pure (wpAny_pure ?_))))))
  have o5' : IsPair h5 TO x y := o5
  refine wpAny_bind (wpAny_seqItems o5' rfl (wpAny_bind (wpAny_newTuple ?_)))
  have sz : h5.objs.size = s.heap.objs.size := by rw [s5.1, s4.1, s3.1, s2.1, s1.1]
  have z5 : IsZip h5 z TI TO .ellipsis := s5.extBut _ _ D.TOz.symm (s4.extBut _ _ D.i2z.symm (s3.extBut _ _ D.TOz.symm (s2.extBut _ _ D.i1z.symm z1')))
  have keep : ∀ b' o, b' ≠ z → b' ≠ TO → b' ≠ i1 → b' ≠ i2 → s.heap.get? b' = some o → h5.get? b' = some o := fun b' o c1 c2 c3 c4 e =>
    s5.extBut _ _ c2 (s4.extBut _ _ c4 (s3.extBut _ _ c2 (s2.extBut _ _ c3 (s1.extBut _ _ c1 e))))
  have ll : SIt c h5 i1 l1 (k1 + 1) := ((l2'.eb s3.extBut D.TOi1.symm).eb s4.extBut D.i12).eb s5.extBut D.TOi1.symm
  have rr : SIt d h5 i2 l2 (k2 + 1) := r4.eb s5.extBut D.TOi2.symm
  have zlt : z < h5.objs.size := Heap.lt_size z5
  show wpAny _ _ (Builtin.SmallTypes.ownedTupleHandOut (.ref z) (.ref h5.objs.size) >>= _) _ _ _
  unfold Builtin.SmallTypes.ownedTupleHandOut
  have z6 : IsZip (h5.push { cls := .type "tuple", data := .seq #[x, y] }) z TI TO .ellipsis := Heap.get?_push_of_some _ z5
  refine wpAny_bind (wpAny_bind (wpAny_setField_rec z6 (by simp) fun h7 z7 s7 => ?_))
  have z7' : IsZip h7 z TI TO (rawInt h5.objs.size) := z7
  refine wpAny_setField_rec z7' (by simp) fun h8 z8 s8 => wpAny_pure ⟨_, rfl, ?_⟩
  have z8' : IsZip h8 z TI TO (rawInt h5.objs.size) := z8
  have up : ∀ b' o, b' ≠ z → h5.get? b' = some o → h8.get? b' = some o := fun b' o c1 e => s8.extBut _ _ c1 (s7.extBut _ _ c1 (Heap.get?_push_of_some _ e))
  have T8 : IsPair h8 h5.objs.size x y := s8.extBut _ _ (Nat.ne_of_gt zlt) (s7.extBut _ _ (Nat.ne_of_gt zlt) (Heap.get?_push_size _ rfl))
  show Q (.ref h5.objs.size) _
  rw [sz] at z8' T8 ⊢
  have i5 : IsPair h5 TI (.ref i1) (.ref i2) := keep _ _ D.TIz D.TITO D.TIi1 D.TIi2 S.i
  exact hQ h8 ⟨z8', up _ _ D.TIz i5, up _ _ D.TOz o5', ll.at fun o e => up _ o D.i1z e, rr.at fun o e => up _ o D.i2z e⟩ T8 fun b' o c1 c2 c3 c4 e => up b' o c1 (keep b' o c1 c2 c3 c4 e)
theorem ZSt.ends (hh : A.handled = none) (D : ZipApart z TI TO i1 i2 l1 l2) (S : ZSt c d s.heap z TI TO i1 i2 l1 l2 k1 k2 .none a b) (hx : SSq c s.heap l1 xs) (hy : SSq d s.heap l2 ys) (he : xs[k1]? = none ∨ ys[k2]? = none) {Q : Fin → Shared → Prop}
    (hE : ∀ h' e, (∀ b o, b ≠ z → b ≠ TO → b ≠ i1 → b ≠ i2 → s.heap.get? b = some o → h'.get? b = some o) → (∃ o, h'.get? e = some o ∧ o.cls = .type "StopIteration") → E (.ref e) { s with heap := h' }) :
    wpAny (model prog w) A (Builtin.«zip.__next__» ⟨[.ref z], []⟩) Q E s := by
  show wpAny _ _ (field (.ref z) 2 >>= _) _ _ _
  refine wpAny_bind (wpAny_field S.z rfl (x := .bool false) rfl ?_)
  show wpAny _ _ (field (.ref z) 3 >>= _) _ _ _
  refine wpAny_bind (wpAny_field S.z rfl (x := .ref TI) rfl (wpAny_bind (wpAny_seqItems S.i rfl ?_)))
  show wpAny _ _ (Builtin.SmallTypes.ownedTupleIsFree (.ref z) >>= _) _ _ _
  unfold Builtin.SmallTypes.ownedTupleIsFree
  refine wpAny_bind (wpAny_bind (wpAny_field S.z rfl (x := .none) rfl (wpAny_pure ?_)))
  simp only [if_true]
  refine wpAny_bind (wpAny_rule (wpAny_bind (wpAny_field S.z rfl (x := .ref TO) rfl (wpAny_bind (wpAny_setField_rec S.z (by simp) fun h1 z1 s1 => wpAny_bind ?_)))))
  have z1' : IsZip h1 z TI TO .ellipsis := z1
  have stop : ∀ (h2 h3 : Heap) (e : Addr) (o : Obj), IsZip h2 z TI TO .ellipsis → h2.get? e = some o → o.cls = .type "StopIteration" → Heap.SameBut z h2 h3 → h3.get? e = some o := fun h2 h3 e o q h c sb =>
    sb.extBut _ _ (fun y => by subst y; rw [q] at h; cases h; simp at c) h
  simp only [List.zipIdx_cons, List.zipIdx_nil, List.forIn_cons, List.forIn_nil]
  refine wpAny_bind (wpAny_bind (wpAny_onRaise ?_))
  show wpAny _ _ (Builtin.SmallTypes.nextOf (.ref i1) >>= _) _ _ _
  have lx := S.l.eb s1.extBut D.i1z
  have sx := hx.eb s1.extBut D.l1z
  cases q : xs[k1]? with
  | none =>
    refine wpAny_bind (side_end hh lx sx q fun h2 e s2 ⟨o, ho, hc⟩ => ?_)
    have z2 : IsZip h2 z TI TO .ellipsis := s2 _ _ D.i1z.symm z1'
    exact wpAny_setField_rec z2 (by simp) fun h3 _ s3 => hE h3 e (fun b' o' c1 _ c3 _ g => s3.extBut _ _ c1 (s2 _ _ c3 (s1.extBut _ _ c1 g))) ⟨o, stop h2 h3 e o z2 ho hc s3, hc⟩
  | some x =>
    have ey : ys[k2]? = none := he.elim (fun t => by rw [q] at t; cases t) id
    refine wpAny_bind (side_item lx sx q fun h2 l2' s2 => wpAny_pure ?_)
    have o2 : IsPair h2 TO a b := s2.extBut _ _ D.TOi1 (s1.extBut _ _ D.TOz S.o)
    refine wpAny_bind (wpAny_seqItems o2 rfl (wpAny_bind (wpAny_updateSeq_pair o2 fun h3 o3 s3 => wpAny_bind (wpAny_letGo (wpAny_pure ?_)))))
    refine wpAny_bind (wpAny_bind (wpAny_onRaise ?_))
    show wpAny _ _ (Builtin.SmallTypes.nextOf (.ref i2) >>= _) _ _ _
    have r3 : SIt d h3 i2 l2 k2 := ((S.r.eb s1.extBut D.i2z).eb s2.extBut D.i12.symm).eb s3.extBut D.TOi2.symm
    have y3 : SSq d h3 l2 ys := ((hy.eb s1.extBut D.l2z).eb s2.extBut D.l2i1).eb s3.extBut D.l2TO
    refine wpAny_bind (side_end hh r3 y3 ey fun h4 e s4 ⟨o, ho, hc⟩ => ?_)
    have z4 : IsZip h4 z TI TO .ellipsis := s4 _ _ D.i2z.symm (s3.extBut _ _ D.TOz.symm (s2.extBut _ _ D.i1z.symm z1'))
    exact wpAny_setField_rec z4 (by simp) fun h5 _ s5 => hE h5 e (fun b' o' c1 c2 c3 c4 g => s5.extBut _ _ c1 (s4 _ _ c4 (s3.extBut _ _ c2 (s2.extBut _ _ c3 (s1.extBut _ _ c1 g))))) ⟨o, stop h4 h5 e o z4 ho hc s5, hc⟩
theorem ZSt.next (D : ZipApart z TI TO i1 i2 l1 l2) (S : ZSt c d s.heap z TI TO i1 i2 l1 l2 k1 k2 .none a b) (hx : SSq c s.heap l1 xs) (hy : SSq d s.heap l2 ys) (ex : xs[k1]? = some x) (ey : ys[k2]? = some y) {Q : Option Value → Shared → Prop}
    (hQ : ∀ h', ZSt c d h' z TI TO i1 i2 l1 l2 (k1 + 1) (k2 + 1) (rawInt s.heap.objs.size) x y → IsPair h' s.heap.objs.size x y →
      (∀ b o, b ≠ z → b ≠ TO → b ≠ i1 → b ≠ i2 → s.heap.get? b = some o → h'.get? b = some o) → Q (some (.ref s.heap.objs.size)) { s with heap := h' }) : wpAny (model prog w) A (pyNext (.ref z)) Q E s := by
  unfold pyNext
  have hT : s.TypeIs (.ref z) "zip" := ⟨_, S.z, rfl⟩
  exact wpAny_bind (wpAny_attempt (wpAny_callSpecial?_slot (name := Str.ofString "__next__") hT F.slot_zip_next
    (wpAny_call_entry F.slot_zip_next hT F.entry_zip_next (S.nexts D hx hy ex ey fun h' t1 t2 t3 => wpAny_pure (hQ h' t1 t2 t3)) (F.args_zip_next_1 _))))
theorem ZSt.stop (hh : A.handled = none) (D : ZipApart z TI TO i1 i2 l1 l2) (S : ZSt c d s.heap z TI TO i1 i2 l1 l2 k1 k2 .none a b) (hx : SSq c s.heap l1 xs) (hy : SSq d s.heap l2 ys) (he : xs[k1]? = none ∨ ys[k2]? = none) {Q : Option Value → Shared → Prop}
    (hQ : ∀ h', (∀ b o, b ≠ z → b ≠ TO → b ≠ i1 → b ≠ i2 → s.heap.get? b = some o → h'.get? b = some o) → Q none { s with heap := h' }) : wpAny (model prog w) A (pyNext (.ref z)) Q E s := by
  unfold pyNext
  have hT : s.TypeIs (.ref z) "zip" := ⟨_, S.z, rfl⟩
  refine wpAny_bind (wpAny_attempt (wpAny_callSpecial?_slot (name := Str.ofString "__next__") hT F.slot_zip_next
    (wpAny_call_entry F.slot_zip_next hT F.entry_zip_next (ZSt.ends (A := A.in1) hh D S hx hy he fun h' e k ⟨o, ho, hc⟩ => ?_) (F.args_zip_next_1 _))))
  exact wpAny_bind (wpAny_isInstance (T := "StopIteration") (b := true) ⟨o, ho, hc⟩ isSubtype_stop (wpAny_pure (hQ _ k)))
end

/-- what side c of the layer's heap holds -/
def Sq (K : PySem.W.Frag) : Bool → Hp → Addr → List V → Prop
  | true, H, a, xs => SqL K H a xs
  | false, H, a, xs => SqT K H a xs
theorem Sq.sqs {X : Cx} {pins : List (Addr × Obj)} {σ : St} {H : Hp} {s : Shared} {c : Bool} {a : Addr} {xs : List V} (I : Inv X pins σ H s) (h : Sq X.K c H a xs) :
    ∃ its : List Value, Vals xs its ∧ SSq c s.heap a its.toArray ∧ a < s.heap.objs.size := by
  cases c with
  | true =>
    obtain ⟨its, r, p, _⟩ := I.list h
    exact ⟨its, r, p.isList, p.lt⟩
  | false =>
    obtain ⟨its, r, p, _⟩ := I.tuple h
    obtain ⟨o, ho, _⟩ := id p
    exact ⟨its, r, p, Heap.lt_size ho⟩
theorem Sq.inj {X : Cx} {pins : List (Addr × Obj)} {σ : St} {H : Hp} {s : Shared} {c : Bool} {a : Addr} {xs ys : List V} (I : Inv X pins σ H s) (h : Sq X.K c H a xs) (h2 : Sq X.K c H a ys) : xs = ys := by
  cases c with
  | true => exact I.list_inj h h2
  | false => exact I.tuple_inj h h2
theorem Sq.mono {K : PySem.W.Frag} {H H' : Hp} {c : Bool} {a : Addr} {xs : List V} (e : Same H H') (h : Sq K c H a xs) : Sq K c H' a xs := by
  cases c with
  | true => exact e.seq h
  | false => exact sqT_mono e h
def Itz2 (K : PySem.W.Frag) (c d : Bool) (a b : Addr) : It :=
  ⟨fun i H => ∃ (xs ys : List V) (x y : V), Sq K c H a xs ∧ Sq K d H b ys ∧ xs[i]? = some x ∧ ys[i]? = some y,
    fun i H v H' => ∃ T x y, v = .ref T ∧ H T = none ∧ H' = upd H T (.tup [x, y]) ∧ (∀ xs, Sq K c H a xs → xs[i]? = some x) ∧ ∀ ys, Sq K d H b ys → ys[i]? = some y,
    fun i H => ∃ xs ys : List V, Sq K c H a xs ∧ Sq K d H b ys ∧ (xs.length ≤ i ∨ ys.length ≤ i)⟩
theorem five {α : Type} {c z t o i j : α} (h : c ∈ [z, t, o, i, j]) : c = z ∨ c = t ∨ c = o ∨ c = i ∨ c = j := by simpa using h
theorem turn_z {P : Program} {w : World} {K : PySem.W.Frag} {elts : List Expr} {kk : Nat} {tpos : Pos} {c d : Bool} {a b z TI TO i1 i2 : Addr} (D : ZipApart z TI TO i1 i2 a b) :
    Turn P w K (.Tuple elts kk tpos) (Itz2 K c d a b) [z, TI, TO, i1, i2] z (fun i h => ∃ x y, ZSt c d h z TI TO i1 i2 a b i i .none x y) where
  mem := by simp
  obj := fun i h ⟨x, y, S⟩ b hb => by
    obtain ⟨o1, e1, d1⟩ := S.l.get
    obtain ⟨o2, e2, d2⟩ := S.r.get
    rcases five hb with rfl | rfl | rfl | rfl | rfl
    · exact ⟨_, S.z, fun v q => nomatch q⟩
    · exact ⟨_, S.i, fun v q => nomatch q⟩
    · exact ⟨_, S.o, fun v q => nomatch q⟩
    · exact ⟨o1, e1, fun v q => by rw [d1] at q; cases q⟩
    · exact ⟨o2, e2, fun v q => by rw [d2] at q; cases q⟩
  keep := fun i h h' ⟨x, y, S⟩ k => ⟨x, y, k _ (by simp) _ S.z, k _ (by simp) _ S.i, k _ (by simp) _ S.o, S.l.at fun o q => k _ (by simp) o q, S.r.at fun o q => k _ (by simp) o q⟩
  item := by
    intro X hP hw hK hc i pins s σ H E I hf st hg
    subst hP hw hK
    obtain ⟨x0, y0, S⟩ := st
    obtain ⟨xs, ys, x, y, qx, qy, hx, hy⟩ := hg
    obtain ⟨its, rv, p1, _⟩ := qx.sqs I
    obtain ⟨its2, rv2, p2, _⟩ := qy.sqs I
    obtain ⟨u, hu, ru⟩ := rv.get hx
    obtain ⟨u2, hu2, ru2⟩ := rv2.get hy
    have zl : z < s.heap.objs.size := Heap.lt_size S.z
    refine S.next D p1 p2 (x := u) (y := u2) (by simpa using hu) (by simpa using hu2) fun h' S' T' k => ⟨_, rfl, wpAny_letOwnedTupleGo_zip (s := { s with heap := h' }) S'.z fun h'' z'' sb => ?_⟩
    have T2 : h''.get? s.heap.objs.size = some { cls := .type "tuple", data := .seq #[u, u2] } := (sb.2 _ (Nat.ne_of_gt zl)).trans T'
    have new : ObjOk X.prog X.w (upd H s.heap.objs.size (.tup [x, y])) h'' s.heap.objs.size (.tup [x, y]) := ⟨by show 2 ≤ sizeLine; decide, [u, u2], .cons ru (.cons ru2 .nil), ⟨_, T2, rfl, _, rfl⟩⟩
    have kk : ∀ b o, b ∉ [z, TI, TO, i1, i2] → s.heap.get? b = some o → h''.get? b = some o := fun b o hb q =>
      (sb.2 b fun e => hb (by simp [e])).trans (k b o (fun e => hb (by simp [e])) (fun e => hb (by simp [e])) (fun e => hb (by simp [e])) (fun e => hb (by simp [e])) q)
    have I1 : Inv X pins σ (upd H s.heap.objs.size (.tup [x, y])) { s with heap := h'' } := I.turnedNew (t' := s.toks) (ch := [z, TI, TO, i1, i2]) kk hf (Nat.le_refl _) new
    refine ⟨.ref s.heap.objs.size, _, I1, rfl, ⟨_, x, y, rfl, I.hok.fresh (Nat.le_refl _), rfl, fun l hl => by rw [hl.inj I qx]; exact hx, fun l hl => by rw [hl.inj I qy]; exact hy⟩,
      ⟨u, u2, z'', (sb.2 _ D.TIz).trans S'.i, (sb.2 _ D.TOz).trans S'.o, S'.l.at fun o q => (sb.2 _ D.i1z).trans q, S'.r.at fun o q => (sb.2 _ D.i2z).trans q⟩, fun b hb => ?_⟩
    have lt : b < s.heap.objs.size := by
      obtain ⟨o1, e1, d1⟩ := S.l.get
      obtain ⟨o2, e2, d2⟩ := S.r.get
      rcases five hb with rfl | rfl | rfl | rfl | rfl
      · exact zl
      · exact Heap.lt_size S.i
      · exact Heap.lt_size S.o
      · exact Heap.lt_size e1
      · exact Heap.lt_size e2
    rw [upd_ne (Nat.ne_of_lt lt)]
    exact (hf b hb).1
  done := by
    intro X hP hw hK hc i pins s σ H E I hf st hg
    subst hP hw hK
    obtain ⟨x0, y0, S⟩ := st
    obtain ⟨xs, ys, qx, qy, hend⟩ := hg
    obtain ⟨its, rv, p1, _⟩ := qx.sqs I
    obtain ⟨its2, rv2, p2, _⟩ := qy.sqs I
    have n1 := rv.length
    have n2 := rv2.length
    have he : its.toArray[i]? = none ∨ its2.toArray[i]? = none := hend.imp (fun q => by simp; omega) fun q => by simp; omega
    exact S.stop (I.ok.hd hc) D p1 p2 he fun h' k => ⟨rfl, I.turnedL (t' := s.toks) (ch := [z, TI, TO, i1, i2]) (fun b o hb q =>
      k b o (fun e => hb (by simp [e])) (fun e => hb (by simp [e])) (fun e => hb (by simp [e])) (fun e => hb (by simp [e])) q) hf⟩
  self := fun A i s Q E ⟨x, y, S⟩ h => wpAny_pyIter_zip S.z h
def iZip2 (K : PySem.W.Frag) (ta : TA) : TI := fun σ H R => ta σ H fun vs H1 => ∃ (c d : Bool) (a b : Addr) (xs ys : List V), vs = [.ref a, .ref b] ∧ Sq K c H1 a xs ∧ Sq K d H1 b ys ∧ R (Itz2 K c d a b) H1
theorem pi_zip2 {X : Cx} {e e2 : Expr} {ta : TA} {p pos tpos : Pos} {elts : List Expr} {kk : Nat} (hg : Gl X "zip") (hm : X.mg "zip" = none) (ha : PA X [e, e2] ta)
    (hs : starEach [e, e2] X.env = (false, eval e X.env) :: starEach [e2] X.env := by rfl) (hpl : (backTo pos (starEach [e2] X.env)).any (·.1) = false := by rfl) :
    PI X (.Tuple elts kk tpos) (.Call (.Name "zip" p) [e, e2] [] pos) (iZip2 X.K ta) := by
  refine ⟨fun pins s σ H R I h => PyProof.Rows.Call_ (ld_blt I hg hm PyProof.Rows.boot_zip (PyProof.Rows.callWith_type1 (thn (ha.run pos pins s σ H _ I h) fun us s1 ⟨vs, H1, I1, r1, q1⟩ => ?_) hs hpl))⟩
  obtain ⟨c, d, a, b, xs, ys, rfl, qx, qy, q⟩ := q1
  cases r1 with
  | cons r rr =>
    cases rr with
    | cons r' rr =>
      cases rr
      cases r
      cases r'
      obtain ⟨its, rv, p1, la⟩ := qx.sqs I1
      obtain ⟨its2, rv2, p2, lb⟩ := qy.sqs I1
      refine zip_call p1 p2 fun h' n hn hz hTI hTO h1 h2 hk => wpAny_pyIter_zip hz ?_
      subst hn
      have I2 : Inv X pins σ H1 { s1 with heap := h' } := I1.kept (t' := s1.toks) hk
      refine ⟨s1.heap.objs.size + 4, [s1.heap.objs.size + 4, s1.heap.objs.size + 2, s1.heap.objs.size + 3, s1.heap.objs.size, s1.heap.objs.size + 1], _, _, H1, rfl, I2, turn_z (PySem.W.ktu_apart s1.heap.objs.size a b la lb), ⟨_, _, hz, hTI, hTO, h1, h2⟩, fun e he => ?_, q⟩
      have le : s1.heap.objs.size ≤ e := by
        rcases five he with rfl | rfl | rfl | rfl | rfl <;> omega
      exact I1.fpOk le (I1.hok.fresh le)
end Vi

namespace Vi
open PySem PySem.Spec L2

def zipD (a b : List D) : List D := (a.zip b).map fun p => .tup [p.1, p.2]
def itZip (fs : List (M D)) : M (List D) := bind (evd fs) fun ds ρ => match ds with
  | [d, e] => (match seqD d, seqD e with
    | some a, some b => .ok (zipD a b) ρ
    | _, _ => .no)
  | _ => .no
section
variable {K : PySem.W.Frag} {μ : Mu} {W : WX} {X : Cx} {fs : List (M D)} {e e2 : Expr} {p pos tpos : Pos} {elts : List Expr} {kk : Nat}
theorem Rp.sq {G : Hp} {v : V} {d : D} {ds : List D} (r : Rp K G v d) (h : seqD d = some ds) : ∃ (c : Bool) (a : Addr) (vs : List V), v = .ref a ∧ Sq K c G a vs ∧ RpA K G vs ds := by
  cases r with
  | lst h1 h2 => cases h; exact ⟨true, _, _, rfl, SqL.of h1, h2⟩
  | tup h1 h2 => cases h; exact ⟨false, _, _, rfl, h1, h2⟩
  | _ => cases h
theorem zipD_len {a b : List D} : (zipD a b).length = min a.length b.length := by unfold zipD; rw [List.length_map, List.length_zip]
theorem zipD_get {a b : List D} {i : Nat} {d : D} (h : (zipD a b)[i]? = some d) : ∃ x y, a[i]? = some x ∧ b[i]? = some y ∧ d = .tup [x, y] := by
  unfold zipD at h
  rw [List.getElem?_map] at h
  cases q : (a.zip b)[i]? with
  | none => rw [q] at h; cases h
  | some z =>
    rw [q] at h
    cases h
    obtain ⟨h1, h2⟩ := List.getElem?_zip_eq_some.mp q
    exact ⟨z.1, z.2, h1, h2, rfl⟩
theorem jok_zip {G : Hp} {c d : Bool} {a b : Addr} {vs ws : List V} {ds es : List D} (h1 : Sq K c G a vs) (r1 : RpA K G vs ds) (h2 : Sq K d G b ws) (r2 : RpA K G ws es) : JOk K G (zipD ds es) (Itz2 K c d a b) where
  go := fun i H s hi => by
    rw [zipD_len] at hi
    obtain ⟨x, hx, _⟩ := r1.get (i := i) (d := ds[i]) (List.getElem?_eq_getElem (by omega))
    obtain ⟨y, hy, _⟩ := r2.get (i := i) (d := es[i]) (List.getElem?_eq_getElem (by omega))
    exact ⟨vs, ws, x, y, h1.mono s, h2.mono s, hx, hy⟩
  stop := fun i H s hi => by
    rw [zipD_len] at hi
    refine ⟨vs, ws, h1.mono s, h2.mono s, ?_⟩
    rw [r1.len, r2.len]
    omega
  yld := fun i H x H' d' s ed y G1 g1 g2 => by
    obtain ⟨T, u, v, rfl, hT, rfl, y1, y2⟩ := y
    obtain ⟨e1, e2, q1, q2, rfl⟩ := zipD_get ed
    obtain ⟨u', hu, ru⟩ := r1.get q1
    obtain ⟨v', hv, rv⟩ := r2.get q2
    have z1 := y1 vs (h1.mono s)
    have z2 := y2 ws (h2.mono s)
    rw [hu] at z1
    rw [hv] at z2
    cases z1
    cases z2
    have al := Alloc.new (u := .tup [u, v]) g2 hT
    exact ⟨_, al, .tup (.inl (.inl upd_same)) (.cons (ru.up (g1.trans al.g)) (.cons (rv.up (g1.trans al.g)) .nil))⟩
theorem i_zip (hg : Gl X "zip") (hm : X.mg "zip" = none) (ha : PA X [e, e2] (rDs K μ W fs)) (hs : starEach [e, e2] X.env = (false, eval e X.env) :: starEach [e2] X.env := by rfl) (hpl : (backTo pos (starEach [e2] X.env)).any (·.1) = false := by rfl) (hK : X.K = K := by rfl) :
    PI X (.Tuple elts kk tpos) (.Call (.Name "zip" p) [e, e2] [] pos) (lI K μ W (itZip fs)) := by
  subst hK
  refine PI_of (pi_zip2 hg hm ha hs hpl) fun σ H R ⟨ρ, G, R0, w⟩ => ?_
  refine evd_go' R0 w fun vs ds ρ1 H1 G1 hl R1 S1 r h => ?_
  cases r with
  | nil => exact h.elim
  | cons ra r =>
    cases r with
    | nil => exact h.elim
    | cons rb r =>
      cases r with
      | cons _ _ => exact h.elim
      | nil =>
        rename_i v d w e
        cases q1 : seqD d with
        | none => simp only [q1] at h; exact h.elim
        | some a =>
          cases q2 : seqD e with
          | none => simp only [q1, q2] at h; exact h.elim
          | some b =>
            simp only [q1, q2] at h
            obtain ⟨c1, x, xs, rfl, k1, k2⟩ := ra.sq q1
            obtain ⟨c2, y, ys, rfl, k3, k4⟩ := rb.sq q2
            exact ⟨c1, c2, x, y, xs, ys, rfl, k1.mono R1.vis, k3.mono R1.vis, Post.ret R1 h _ (jok_zip k1 k2 k3 k4)⟩

def putE (i : Nat) (fx : M D) (d : D) : M Unit := fun ρ0 => if isLst ρ0 i = true then bind fx (fun k ρ1 => match k, owS ρ1 i with
  | .int k, some (.lst ds) => (match ixN ds.length k with
    | some j => .ok () (putM ρ1 i (.lst (ds.set j d)))
    | none => .no)
  | _, _ => .no) ρ0 else .no
def vSwap (i j : Nat) (fx fy fv : M D) : VS := sb fv fun d => match d with
  | .tup [a, b] => sb (putE i fx a) fun _ => sb (putE j fy b) fun _ => .nx
  | _ => fun _ => .no
theorem go_sub {i : Nat} {fx : M D} {d : D} {v : V} {σ : St} {ρ : En} {H G : Hp} {P : Unit → En → Hp → Hp → Prop} {Q : St → Hp → Prop} (R : Rl K μ σ H ρ G) (r : Rp K G v d) (h : Post K μ W σ ρ H G (putE i fx d ρ) P)
    (c : ∀ ρ' H' G', Rl K μ σ H' ρ' G' → Step σ ρ H G σ ρ' H' G' → P () ρ' H' G' → Q σ H') : gSub (tVar i) (lE K μ W fx) rSetL v σ H Q := by
  unfold putE at h
  by_cases hl : isLst ρ i = true
  · simp only [if_pos hl] at h
    obtain ⟨a, vs, k1, k2⟩ := R.atLst hl
    refine ⟨.ref a, k1, ρ, G, R, (Post.bind h).imp fun k ρ1 H1 G1 R1 S1 h2 x rx => ?_⟩
    cases k with
    | int k =>
      cases rx
      cases e1 : owS ρ1 i with
      | none => simp only [e1] at h2; exact h2.elim
      | some m =>
        cases m with
        | lst ds =>
          simp only [e1] at h2
          cases ej : ixN ds.length k with
          | none => simp only [ej] at h2; exact h2.elim
          | some j =>
            simp only [ej] at h2
            obtain ⟨s, e2, e3, e4⟩ := owS_at e1
            obtain ⟨a', u, l1, l2, l3, ⟨ws, rfl, l4⟩, l5⟩ := R1.atOw e2 e3
            rw [k1] at l1
            cases l1
            rw [e4] at h2
            obtain ⟨R2, S2⟩ := R1.write (m' := .lst (ds.set j d)) e2 e3 l5 l3 ⟨ws.set j v, rfl, RpA.set (r.up S1.g) j l4⟩
            exact ⟨a, ws, k, j, rfl, rfl, l2, by rw [l4.len]; exact ej, c _ _ _ R2 (S1.trans S2) (h2 _ _ R2 S2)⟩
        | dic _ _ => simp only [e1] at h2; exact h2.elim
        | ins _ _ _ => simp only [e1] at h2; exact h2.elim
    | _ => exact h2.elim
  · simp only [if_neg hl] at h; exact h.elim
theorem s_swap {i j : Nat} {o1 o2 x1 x2 : Expr} {fx fy fv : M D} {kt : Nat} {pt p1 p2 sp : Pos} (h1 : PE X o1 (tVar i)) (h2 : PE X o2 (tVar j)) (hx : PE X x1 (lE K μ W fx)) (hy : PE X x2 (lE K μ W fy)) (he : PE X e (lE K μ W fv)) (hc : X.calm = true := by rfl) (hK : X.K = K := by rfl)
    (ha1 : ∀ v, assign (.Subscript o1 x1 p1) X.env v = (do
      let ov ← holding [v] (eval o1 X.env)
      let iv ← holding [v, ov] (eval x1 X.env)
      standAt p1
      holding [v, ov, iv] (setItem ov iv v)
      release [v, ov, iv] []) := by intro _; rfl)
    (ha2 : ∀ v, assign (.Subscript o2 x2 p2) X.env v = (do
      let ov ← holding [v] (eval o2 X.env)
      let iv ← holding [v, ov] (eval x2 X.env)
      standAt p2
      holding [v, ov, iv] (setItem ov iv v)
      release [v, ov, iv] []) := by intro _; rfl)
    (hn : (assignEach [.Subscript o1 x1 p1, .Subscript o2 x2 p2] X.env).length = 2 := by rfl) (hst : (assignEach [.Subscript o1 x1 p1, .Subscript o2 x2 p2] X.env).findIdx? (·.1) = none := by rfl)
    (hs1 : (assignEach [.Subscript o1 x1 p1, .Subscript o2 x2 p2] X.env).map (·.2) = assign (.Subscript o1 x1 p1) X.env :: (assignEach [.Subscript o2 x2 p2] X.env).map (·.2) := by rfl)
    (hs2 : (assignEach [.Subscript o2 x2 p2] X.env).map (·.2) = assign (.Subscript o2 x2 p2) X.env :: (assignEach [] X.env).map (·.2) := by rfl)
    (hs : swapsWithSole [.Tuple [.Subscript o1 x1 p1, .Subscript o2 x2 p2] kt pt] e sp.line X.env = pure false := by rfl) (hw : swappedStores [.Tuple [.Subscript o1 x1 p1, .Subscript o2 x2 p2] kt pt] e X.env = pure none := by rfl)
    (hz : (assignEach [.Tuple [.Subscript o1 x1 p1, .Subscript o2 x2 p2] kt pt] X.env).map (·.2) = [assign (.Tuple [.Subscript o1 x1 p1, .Subscript o2 x2 p2] kt pt) X.env] := by rfl) :
    PS X (.Assign [.Tuple [.Subscript o1 x1 p1, .Subscript o2 x2 p2] kt pt] e sp) (lS K μ W (vSwap i j fx fy fv)) := by
  subst hK
  refine PS_of (ps_asg he (pg_tup hc (pgs_cons (pg_sub h1 hx set_list ha1) (pgs_cons (pg_sub h2 hy set_list ha2) pgs_nil hs2) hs1) hn hst) hs hw hz) fun Dn σ H ⟨ρ, G, R, w⟩ => ⟨ρ, G, R, (PostS.bind w).imp fun d ρ0 H0 G0 R0 S0 h v r => ?_⟩
  cases r with
  | tup q ra =>
    cases ra with
    | nil => exact h.elim
    | cons ra rb =>
      cases rb with
      | nil => exact h.elim
      | cons rb rc =>
        cases rc with
        | cons _ _ => exact h.elim
        | nil =>
          refine ⟨_, _, rfl, sqT_mono R0.vis q, rfl, _, _, rfl, go_sub R0 ra (PostS.bind h) fun ρ1 H1 G1 R1 S1 h1 => ⟨_, _, rfl, go_sub R1 (rb.up S1.g) (PostS.bind h1) fun ρ2 H2 G2 R2 S2 h2 => ⟨rfl, PostS.nx R2 h2⟩⟩⟩
  | _ => exact h.elim
end
end Vi

namespace Vi
open PySem PySem.Spec L2 PySem.HandSPX
open PySem.W (kxs_mw ksFn ksEnv)

def iniA (n1 n2 : Option Expr) (p1 p2 : Pos) (par : Str) : Arguments := { posonlyargs := [], args := [⟨"self", n1, p1⟩, ⟨par, n2, p2⟩], vararg := none, kwonlyargs := [], kw_defaults := [], kwarg := none, defaults := [] }
def iniB (m : Expr) (fld par : Str) (q0 q1 q2 q3 q4 r1 r2 r3 r4 : Pos) : List Stmt :=
  [.Expr (.Call (.Attribute (.Call (.Name "super" q0) [] [] q1) "__init__" q2) [m] [] q3) q4, .Assign [.Attribute (.Name "self" r1) fld r2] (.Name par r3) r4]
/-- the message: a text, or a text with the argument behind it -/
inductive Msg (par : Str) : Bool → Expr → Prop
  | con (z : Str) (k : Nat) (p : Pos) : z.length ≤ 1000 → Msg par false (.Constant (.str z) k p)
  | fmt (z : Str) (k : Nat) (p p2 p3 p4 : Pos) : z.length ≤ 1000 → Msg par true (.JoinedStr [.Constant (.str z) k p, .FormattedValue (.Name par p2) (-1) none p3] p4)
def MsgV (fm : Bool) (v : Value) : Prop := fm = true → ∃ y t, v = .str y t ∧ y.length ≤ 1000
structure IniS (scope : Scope) (par : Str) : Prop where
  sup : scope.names.lookup ("super" : Str) = some .globalImplicit
  cls : scope.names.lookup ("__class__" : Str) = some .free
  self : scope.names.lookup ("self" : Str) = some .local
  par : scope.names.lookup par = some .local
  cell : ∀ x ∈ scope.names, x.2 ≠ .cell
  co : scope.isCoroutine = false
  gen : scope.isGenerator = false
  kind : scope.kind = .function
/-- what the text of __init__ must be for the walk -/
structure IniTx (qual par fld : Str) (fm : Bool) (params : Arguments) (body : List Stmt) (scope : Scope) (m : Expr) (q0 q1 q2 q3 q4 r1 r2 r3 r4 : Pos) (pl : Sem Bool) : Prop where
  bd : body = iniB m fld par q0 q1 q2 q3 q4 r1 r2 r3 r4
  hd : ∃ ar : Arg, (params.posonlyargs ++ params.args).head? = some ar ∧ ar.arg = "self"
  msg : Msg par fm m
  sc : IniS scope par
  ps : par ≠ "self"
  pd : (par == ("__debug__" : Str)) = false
  he : ∀ L f cd cc, eval (.Call (.Attribute (.Call (.Name "super" q0) [] [] q1) "__init__" q2) [m] [] q3) (ksEnv qual scope L f cd cc) = (do
      let ov ← attributeBase (.Call (.Name "super" q0) [] [] q1) "__init__" (ksEnv qual scope L f cd cc) (eval (.Call (.Name "super" q0) [] [] q1) (ksEnv qual scope L f cd cc))
      standAt q2.atName
      let (f', first) ← holding [ov] (getMethod ov "__init__" pl)
      callWith q3 f' first (backTo q3 (starEach [m] (ksEnv qual scope L f cd cc))) [])
  hi : ∀ L f cd cc, interactive (ksEnv qual scope L f cd cc) = false
  hs : ∀ L f cd cc, swapsWith (.Call (.Attribute (.Call (.Name "super" q0) [] [] q1) "__init__" q2) [m] [] q3) none q4.line (ksEnv qual scope L f cd cc) = pure false
  hs2 : ∀ L f cd cc, swapsWith (.Name par r3) (some (.Attribute (.Name "self" r1) fld r2)) r4.line (ksEnv qual scope L f cd cc) = pure false
  bt : ∀ (doc pm : Value) (an : Option Addr) (cdv ct : Value) (cc : Addr) (x v : Value), bindArgs (ksFn "__init__" qual params body scope .none .none doc pm an cdv ct cc) ⟨[x, v], []⟩ = pure [(PySem.Str.ofString "self", x), (par, v)]
/-- what the written part says of __init__, at fI, of the class at C -/
structure XIni (P : Program) (K : PySem.W.Frag) (C fI : Addr) (qual fld : Str) (params : Arguments) (body : List Stmt) (scope : Scope) : Prop where
  fn : ∃ (oc : Value) (od : Option Addr) (osl : Array (Option Value)) (doc pm : Value) (an : Option Addr) (cda cc : Addr) (ct : Value),
    K.lookup fI = some ⟨oc, od, .func (ksFn "__init__" qual params body scope .none .none doc pm an (.ref cda) ct cc), osl⟩ ∧ PySem.W.codeIn K (.ref cda) qual = true ∧
    (∃ (ccl : Value) (cdd : Option Addr) (vs : Array Value) (ccs : Array (Option Value)) (file : Str) (tf : Tok), K.lookup cda = some ⟨ccl, cdd, .fields vs, ccs⟩ ∧ vs[2]? = some (.str file tf) ∧ ((P.main.file : Str) == file) = true) ∧
    (∃ (cl : Value) (cld : Option Addr) (csl : Array (Option Value)), K.lookup cc = some ⟨cl, cld, .cell (some (.ref C)), csl⟩)
  cls : ∃ nm q N bs bm sn sub ab col dd k0 k1 k2 k3 k5, K.lookup C = some (excClassObj nm q C N bs bm true sn sub ab col dd k0 k1 k2 k3 k5 "ValueError.__new__") ∧ refsVE bm = true ∧ PySem.W.alongIn K "__init__" bm = some (some (.builtin "ValueError.__init__"))
  sa : PySem.W.findIn K (.ref C) "__setattr__" = some (some (.builtin "object.__setattr__"))
  noN : PySem.W.findIn K (.ref C) fld = some none
  exV : PySem.W.subIn K (.ref C) (.type "ValueError") = some true
  tp : PySem.W.nsIn K cStatics "thirdparty.any" = some none
  top : (P.main.scope.names.lookup ("super" : Str)).isSome = false
  iC : PySem.W.findIn K (.ref C) "__init__" = some (some (.ref fI))
  tI : PySem.W.typeIn K (.ref fI) = some (.type "function")

section
variable {prog : Program} {w : World} {A : Around} {E : Value → Shared → Prop} {R : Result → Shared → Prop} {s : Shared} {K : PySem.W.Frag}
theorem msg_run {fm : Bool} {par : Str} {m : Expr} {env : Env} {mm : Str → Option Value} {v : Value} {Q : Value → Shared → Prop} (hm : Msg par fm m) (hv : MsgV fm v) (hk : env.scope.kind = .function) (hl : env.kindOf par = some .local) (hn : s.heap.Ns env.locals mm) (hmm : mm par = some v) (hd : (par == ("__debug__" : Str)) = false)
    (h : ∀ z tk tk', Q (.str z tk) { s with toks := tk' }) : wpAny (model prog w) A (eval m env) Q E s := by
  cases hm with
  | con z k p hz => exact wpAny_Constant_str (h _ _ _)
  | fmt z k p p2 p3 p4 hz =>
    obtain ⟨y, t, rfl, hy⟩ := hv rfl
    refine wpAny_JoinedStr ?_
    refine wpAny_Constant_str ⟨z, _, rfl, ?_, ?_⟩
    · rw [Str.length_append, sizeLine_eq]
      have e0 : Str.empty.length = 0 := rfl
      omega
    have lim : (Str.empty ++ z ++ y).length ≤ sizeLine := by
      rw [Str.length_append, Str.length_append, sizeLine_eq]
      have e0 : Str.empty.length = 0 := rfl
      omega
    refine wpAny_FormattedValue_plain (wpAny_Name (wpAny_loadName_local hk hl hn hmm ?_) hd)
    refine wpAny_formatField_str ⟨y, _, rfl, lim, ?_⟩ ⟨y, _, rfl, lim, ?_⟩ (by rw [sizeLine_eq]; omega)
    · exact ⟨lim, h _ _ _⟩
    · exact ⟨lim, h _ _ _⟩
theorem msg_star {fm : Bool} {par : Str} {m : Expr} {env : Env} (hm : Msg par fm m) : starEach [m] env = (false, eval m env) :: starEach [] env := by
  cases hm <;> rfl
end
/-- the built-in __init__ bound to the exception, called -/
theorem mw_call {prog : Program} {w : World} {A : Around} {E : Value → Shared → Prop} {h : Heap} {g : Array GenState} {d : Drawn} {t : Nat} {os : OsState} {nm q : Str} {C N : Addr} {bs bm : List Value} {hdct : Bool} {sn : List Str} {sub : List Value} {ab : Bool} {col : Option Bool} {dd : Option Addr} {k0 k1 k2 k3 k5 : Option Value} {u x t0 : Addr} {rest : List Value} {Q : Value → Shared → Prop}
    (hC : h.get? C = some (excClassObj nm q C N bs bm hdct sn sub ab col dd k0 k1 k2 k3 k5 "ValueError.__new__")) (he : h.get? x = some (excO C t0)) (hu : h.get? u = some (kxs_mw "ValueError.__init__" x)) (hz : rest.length ≤ sizeLine)
    (hq : ∀ h' t1, (∀ b o, b ≠ x → h.get? b = some o → h'.get? b = some o) → h'.get? x = some (excO C t1) → Q .none ⟨h', g, d, t, os⟩) : wpAny (model prog w) A (call (.ref u) rest) Q E ⟨h, g, d, t, os⟩ := by
  refine wpAny_call (codeAny_of_tree ?_)
  show wpAny _ A.in1 (callAny (.ref u) ⟨rest, []⟩) _ _ _
  simp only [callAny]
  refine wpAny_bind (wpAny_load hu ?_)
  simp only [kxs_mw, show (Value.type "method-wrapper" == Value.type "method" || Value.type "method-wrapper" == Value.type "builtin_function_or_method" || Value.type "method-wrapper" == Value.type "method-wrapper") = true by decide, if_true]
  refine PySem.W.KFB.if_so (by decide) ?_
  refine wpAny_bind (PySem.W.check_bound_init F.excBase_ValueError.toExcCallFacts hC he rfl ?_)
  refine wpAny_bind (wpAny_pure (wpAny_pure ⟨plainId_quiet F.excBase_ValueError.init.plain _, codeAny_builtin F.excBase_ValueError.initEntry ?_⟩))
  exact PySem.W.exc_init_tree (cls := .ref C) (t0 := t0) (dv := none) (c2 := .none) (c3 := .none) (b4 := .bool false) he hz fun h' k e' _ => hq h' _ k e'
end Vi

namespace Vi
open PySem PySem.Spec L2 PySem.HandSPX
open PySem.W (kxs_mw ksFn ksEnv)

structure IniEnd (h h' : Heap) (x C dx t1 : Addr) (fld : Str) (v : Value) : Prop where
  keep : ∀ b o, b ≠ x → h.get? b = some o → h'.get? b = some o
  obj : h'.get? x = some { cls := .ref C, dict := some dx, data := .fields #[.ref t1, .none, .none, .none, .bool false, .none] }
  dbig : h.objs.size ≤ dx
  dne : dx ≠ x
  ns : h'.Ns1 dx (fun y => if y = fld then some v else none)
structure MadeX (h h' : Heap) (e C d : Addr) (fld : Str) (v : Value) : Prop where
  keep : ∀ b o, h.get? b = some o → h'.get? b = some o
  new : h.objs.size ≤ e
  obj : ∃ oe vs, h'.get? e = some oe ∧ oe.cls = .ref C ∧ oe.dict = some d ∧ oe.data = .fields vs ∧ vs[1]? = some .none
  dbig : h.objs.size ≤ d
  dne : d ≠ e
  ns : h'.Ns1 d (fun y => if y = fld then some v else none)
section
variable {prog : Program} {w : World} {A : Around} {E : Value → Shared → Prop} {R : Result → Shared → Prop} {s : Shared} {K : PySem.W.Frag} {C fI : Addr} {qual par fld : Str} {fm : Bool} {mg mb : Str → Option Value} {params : Arguments} {body : List Stmt} {scope : Scope} {m : Expr} {q0 q1 q2 q3 q4 r1 r2 r3 r4 : Pos} {pl : Sem Bool}
theorem ini_run (T : XIni prog K C fI qual fld params body scope) (S : IniTx qual par fld fm params body scope m q0 q1 q2 q3 q4 r1 r2 r3 r4 pl) {x t0 : Addr} {v : Value} (X : K.In s.heap) (hlim : s.heap.NoLimit) (hG : s.heap.Ns mainGlobals mg) (hB : s.heap.Ns builtinsNs mb) (hms : mg "super" = none) (hmb : mb "super" = bootBuiltins "super")
    (hx : s.heap.get? x = some (excO C t0)) (nl : K.lookup x = none) (hroom : A.depth < recursionLimit) (hv : MsgV fm v)
    (hq : ∀ h' tk dx t1, IniEnd s.heap h' x C dx t1 fld v → R (.ok (.ret .none)) { s with heap := h', toks := tk }) : codeAny (model prog w) A (.call (.ref fI) ⟨[.ref x, v], []⟩) R s := by
  obtain ⟨oc, od, osl, doc, pm, an, cda, cc, ct, ho, hcd, ⟨ccl, cdd, vs, ccs, file, tf, hco, hvs, hfile⟩, ⟨cl, cld, csl, hcell⟩⟩ := T.fn
  obtain ⟨nm, q, N, bs, bm, sn, sub, ab, col, dd, k0, k1, k2, k3, k5, hC, hbm, hal⟩ := T.cls
  have hcl : PySem.W.clsIn K C = some { name := nm, bases := bs, mro := .ref C :: bm, ns := N, qualname := q, hasDict := true, slotNames := sn, subclasses := sub, abstract := ab, collection := col, hasDel := false } := by unfold PySem.W.clsIn; rw [hC] <;> rfl
  have SC := S.sc
  have hps := S.ps
  obtain ⟨ar, har, hself⟩ := S.hd
  have lb : ∀ y ∈ [((PySem.Str.ofString "self"), Value.ref x), (par, v)], scope.names.lookup y.1 = some .local := fun y hy => by
    simp only [List.mem_cons, List.mem_nil_iff, or_false] at hy
    rcases hy with rfl | rfl
    · exact SC.self
    · exact SC.par
  have eb := S.bd
  refine ks_codeAny_call_defAt (fd := ksFn "__init__" qual params body scope .none .none doc pm an (.ref cda) ct cc) (body := body) (binds := [((PySem.Str.ofString "self"), .ref x), (par, v)])
    hroom (X _ _ ho) rfl hlim (PySem.W.codeRec_of X hcd) rfl (BindsTo.of_eq (S.bt _ _ _ _ _ _ _ _)) SC.cell lb (fun h1 hn k => ?_) SC.co SC.gen SC.kind
  have bself : [((PySem.Str.ofString "self"), Value.ref x), (par, v)].reverse.lookup ("self" : Str) = some (.ref x) := by
    have e : (("self" : Str) == par) = false := by simpa using fun z => hps z.symm
    simp [List.lookup, e]
  have bpar : [((PySem.Str.ofString "self"), Value.ref x), (par, v)].reverse.lookup par = some v := by simp [List.lookup]
  have X1 : K.In h1 := X.keeps k
  have x1 := k _ _ hx
  have key : callEnv (ksFn "__init__" qual params body scope .none .none doc pm an (.ref cda) ct cc) s.heap.objs.size fI = ksEnv qual scope s.heap.objs.size fI (.ref cda) cc := rfl
  rw [key]
  suffices H : ∀ body', body' = body → wpAt (model prog w) (A.deeper (ksEnv qual scope s.heap.objs.size fI (.ref cda) cc)) (.func body' (ksEnv qual scope s.heap.objs.size fI (.ref cda) cc)) (execs (iniB m fld par q0 q1 q2 q3 q4 r1 r2 r3 r4) (ksEnv qual scope s.heap.objs.size fI (.ref cda) cc)) (fun f s' => R (.ok (.ret (match f with | .ret v => v | _ => .none))) s')
        (fun e s' => wpAny (model prog w) (A.deeper (ksEnv qual scope s.heap.objs.size fI (.ref cda) cc)) (leaving (ksEnv qual scope s.heap.objs.size fI (.ref cda) cc) e) (fun _ s'' => R (.error e) s'') (fun e' s'' => R (.error e') s'') s')
        { s with heap := h1, toks := s.toks + 2 } by
    have H2 := H body rfl
    rw [← eb] at H2
    exact H2
  intro body' _
  refine ks_wpAt_execs_cons (ks_wpAt_Expr_any (ks_wpAt_MethodCall (pl := pl) ?_ (S.he _ _ _ _)) (S.hi _ _ _ _) (S.hs _ _ _ _))
  refine ks_wpAt_super_base SC.sup SC.cls (by decide) rfl (X1 _ _ ho) rfl har rfl (X1 _ _ hco) rfl hvs hfile T.top ?_
  rw [hself]
  refine PySem.W.ks_loadName_global SC.kind SC.sup (Calls.loadGlobal_builtin (hG.keeps k) hms (hB.keeps k) (hmb.trans PyProof.Rows.Boot.«super») ⟨rfl, ?_⟩)
  refine wpAny_loadName_free SC.kind SC.cls (c := cc) (by simp [List.lookup]) ⟨_, X1 _ _ hcell, rfl⟩ ?_
  refine wpAny_loadName_local SC.kind SC.self hn bself ?_
  refine ks_wpAny_isType_cls (X1 _ _ hC) rfl ⟨rfl, ?_⟩
  refine ks_wpAny_call_super (X1 _ _ hC) rfl x1 rfl (fun c z => by cases z) (PySem.W.looks_mroIn X1 (by unfold PySem.W.mroIn; rw [hcl, Option.bind_some, if_neg (by simp)]; simp)) (fun h2 so k2 => ?_)
  have X2 : K.In h2 := X1.keeps k2
  have x2 := k2 _ _ x1
  have xne : x ≠ C := fun z => by
    rw [z, X1 _ _ hC] at x1
    simp [excClassObj] at x1
  refine PySem.W.kxs_getMethod PySem.W.kxs_ValueError so (PySem.W.looks_opaque X2 T.tp) (PySem.W.looks_clsIn X2 hcl |>.andThen .now) rfl X2 (by simpa using hal) ((show PySem.W.Looks _ h2 (typeOf (.ref x)) (.ref C) from ?_).andThen (PySem.W.looks_subIn X2 T.exV)) xne (by decide) ?_
  · exact (show PySem.W.InstAt h2 x (excO C t0) C none from ⟨x2, rfl, rfl, trivial⟩).type
  have u3 : (h2.push (kxs_mw "ValueError.__init__" x)).get? h2.objs.size = some (kxs_mw "ValueError.__init__" x) := Heap.get?_push_at rfl rfl
  have k3 : ∀ b o, h2.get? b = some o → (h2.push (kxs_mw "ValueError.__init__" x)).get? b = some o := fun b o e => Heap.get?_push_of_some _ e
  rw [msg_star S.msg]
  refine PySem.W.kxs_callWith (i := "ValueError.__init__") (x := x) rfl (Calls.evalArgs_plain (Calls.spliced_cons ?_))
  refine msg_run S.msg hv SC.kind SC.par (hn.keeps fun b o e => k3 b o (k2 b o e)) bpar S.pd fun z tk tk' => Calls.spliced_nil ⟨u3, ?_⟩
  refine mw_call (k3 _ _ (X2 _ _ hC)) (k3 _ _ x2) u3 (by show 1 ≤ sizeLine; decide) fun h4 t1 k4 x4 => ?_
  have kx : ∀ b o, b ≠ x → h1.get? b = some o → h4.get? b = some o := fun b o hb e => k4 b o hb (k3 b o (k2 b o e))
  have xL : s.heap.objs.size ≠ x := Nat.ne_of_gt (Heap.lt_size hx)
  have X4 : K.In h4 := fun a o e => kx a o (fun z => by rw [z, nl] at e; cases e) (X1 a o e)
  have hn4 : h4.Ns s.heap.objs.size fun x_1 => List.lookup x_1 [((PySem.Str.ofString "self"), Value.ref x), (par, v)].reverse := by
    obtain ⟨oL, es, ep, hL, r⟩ := hn
    exact ⟨oL, es, ep, kx _ _ xL hL, r⟩
  show wpAt _ _ _ (execs _ _) _ _ _
  refine wpAt_of_wpAny (wpAny_execs_cons (plainObj_wpAny_Assign_Attribute ?_ (S.hs2 _ _ _ _)))
  refine wpAny_Name (wpAny_loadName_local SC.kind SC.par hn4 bpar ?_) S.pd
  refine wpAny_Name (wpAny_loadName_local SC.kind SC.self hn4 bself ?_) (by decide)
  refine PySem.W.set_plain X4 (ox := excO C t1) (od := none) ⟨x4, rfl, rfl, trivial⟩ T.sa ?_
  refine exc_osa X4 x4 hcl (show refsVE (.ref C :: bm) = true from hbm) rfl T.noN (fun h5 tk5 dx k5 dn dne x5 hn5 => ?_)
  show wpAny _ _ (execs _ _) _ _ _
  have z4 : s.heap.objs.size < h4.objs.size := hn4.lt
  exact wpAny_execs_nil (hq h5 tk5 dx _ ⟨fun b o hb e => k5 b o hb (kx b o hb (k b o e)), x5, Nat.le_of_lt (Nat.lt_of_lt_of_le z4 dn), dne, hn5⟩)
theorem x_made (T : XIni prog K C fI qual fld params body scope) (S : IniTx qual par fld fm params body scope m q0 q1 q2 q3 q4 r1 r2 r3 r4 pl) {v : Value} (X : K.In s.heap) (hlim : s.heap.NoLimit) (hG : s.heap.Ns mainGlobals mg) (hB : s.heap.Ns builtinsNs mb) (hms : mg "super" = none) (hmb : mb "super" = bootBuiltins "super")
    (hroom : A.depth + 1 < recursionLimit) (hv : MsgV fm v) (hq : ∀ h' tk e d, MadeX s.heap h' e C d fld v → R (.ok (.ret (.ref e))) { s with heap := h', toks := tk }) :
    codeAny (model prog w) A (.call (.ref C) ⟨[v], []⟩) R s := by
  obtain ⟨nm, q, N, bs, bm, sn, sub, ab, col, dd, k0, k1, k2, k3, k5, hC, hbm, hal⟩ := T.cls
  obtain ⟨hp, g, dr, tk, os⟩ := s
  have k : ∀ b o, hp.get? b = some o → ((hp.push (PySem.W.kdv_tup [v])).push (excO C hp.objs.size)).get? b = some o := fun b o e => Heap.get?_push_of_some _ (Heap.get?_push_of_some _ e)
  have hget : ((hp.push (PySem.W.kdv_tup [v])).push (excO C hp.objs.size)).get? (hp.objs.size + 1) = some (excO C hp.objs.size) := by heap_get
  have nl : K.lookup (hp.objs.size + 1) = none := by
    cases e : K.lookup (hp.objs.size + 1) with
    | none => rfl
    | some o =>
      have z : hp.get? (hp.objs.size + 1) = some o := X _ _ e
      exact absurd (Nat.lt_of_succ_lt (Heap.lt_size z)) (Nat.lt_irrefl _)
  refine call_own F.excBase_ValueError (fun Y => refsVE_contains Y bm hbm) (X _ _ hC) (PySem.W.looks_findIn X T.iC) (fun self => PySem.W.bind_fn X self T.tI) (by show 1 ≤ sizeLine; decide) ?_
  refine ini_run (s := ⟨(hp.push (PySem.W.kdv_tup [v])).push (excO C hp.objs.size), g, dr, tk, os⟩) T S (X.keeps k) (hlim.keeps k) (hG.keeps k) (hB.keeps k) hms hmb hget nl hroom hv fun h' tk' dx t1 ⟨k', hx, dn, dne, hns⟩ => ?_
  have old : ∀ b o, hp.get? b = some o → h'.get? b = some o := fun b o e => k' b o (Nat.ne_of_lt (Nat.lt_succ_of_lt (Heap.lt_size e))) (k b o e)
  have z : hp.objs.size + 1 + 1 ≤ dx := by
    have y := dn
    rw [Heap.size_push, Heap.size_push] at y
    exact y
  exact ⟨rfl, hq h' tk' (hp.objs.size + 1) dx ⟨old, Nat.le_succ _, ⟨_, _, hx, rfl, rfl, rfl, rfl⟩, Nat.le_trans (Nat.le_add_right _ 2) z, dne, hns⟩⟩
end
end Vi

namespace Vi
open PySem PySem.Spec L2 PySem.HandSPX

theorem relO_one {fld : Str} {v : V} {v' : Value} (r : RelV v v') (f : Str) : RelO (List.lookup f [(fld, v)]) (if f = fld then some v' else none) := by
  by_cases hw : f = fld
  · subst hw
    rw [if_pos rfl]
    have q : List.lookup f [(f, v)] = some v := by simp [List.lookup]
    rw [q]
    exact r
  · rw [if_neg hw]
    have qw : (f == fld) = false := by simpa using hw
    have q2 : List.lookup f [(fld, v)] = none := by simp [List.lookup, qw]
    rw [q2]
    trivial
/-- all that a raise of the class by the name c needs -/
structure XMk (P : Program) (K : PySem.W.Frag) (mg : Str → Option Value) (c fld : Str) (fm : Bool) : Prop where
  ini : ∃ (fI : Addr) (qual par : Str) (params : Arguments) (body : List Stmt) (scope : Scope) (m : Expr) (q0 q1 q2 q3 q4 r1 r2 r3 r4 : Pos) (pl : Sem Bool), XIni P K (He.ga K c) fI qual fld params body scope ∧ IniTx qual par fld fm params body scope m q0 q1 q2 q3 q4 r1 r2 r3 r4 pl
  gC : mg c = some (.ref (He.ga K c))
  kC : PySem.W.keepIn K (.ref (He.ga K c)) = true
  exC : PySem.W.subIn K (.ref (He.ga K c)) (.type "BaseException") = some true
  tyC : PySem.W.typeIn K (.ref (He.ga K c)) = some (.type "type")
  msup : mg "super" = none
/-- C(e) -/
def tMkX (K : PySem.W.Frag) (c fld : Str) (fm : Bool) (ta : TA) : St → Hp → XK → Prop := fun σ H Q => ta σ H fun vs H1 => ∃ v, vs = [v] ∧ (fm = true → ∃ y : Str, v = .str y ∧ y.length ≤ 1000) ∧ ∀ d, H1 d = none → Q (.ref (He.ga K c)) (some d) (upd H1 d (.xd [(fld, v)]))
section
variable {X : Cx} {c fld : Str} {fm : Bool}
theorem pmk_x {a : Expr} {ta : TA} {p pos : Pos} {k : Nat} (T : XMk X.prog X.K X.mg c fld fm) (hr : Room k X.A) (ha : PA X [a] ta) (hg : Gl X c) (hdb : (c == ("__debug__" : Str)) = false := by decide)
    (he : starEach (a :: []) X.env = (false, eval a X.env) :: starEach [] X.env := by rfl) (hpl : (backTo pos (starEach [] X.env)).any (·.1) = false := by rfl) :
    PMk X (.Call (.Name c p) [a] [] pos) (tMkX X.K c fld fm ta) := by
  intro pins s σ H Q I h
  obtain ⟨fI, qual, par, params, body, scope, m, q0, q1, q2, q3, q4, r1, r2, r3, r4, pl, TI, TX⟩ := T.ini
  refine wpAny_Call_Name_kw (ld_glob I hg T.gC ?_ hdb)
  refine PySem.W.callWith_K (h₀ := X.base) I.ok.mod.kin T.kC (thn (ha.run pos pins s σ H _ I h) fun us s1 hh => ?_) he hpl
  obtain ⟨vs, H1, I1, r1, v, ev, hm, q1⟩ := hh
  subst ev
  refine ⟨I1.kIn, ?_⟩
  cases r1 with
  | cons rv rn =>
    rename_i v' us'
    cases rn
    show wpAny _ _ (call (.ref (He.ga X.K c)) [v']) _ _ _
    have hlim := I1.nolimit
    obtain ⟨mb, hb1, hb2⟩ := I1.mod.blt
    have hv : MsgV fm v' := fun z => by
      obtain ⟨y, rfl, hy⟩ := hm z
      obtain ⟨t, rfl⟩ := rv
      exact ⟨y, t, rfl, hy⟩
    have hG := I1.mod.glob.keeps I1.bk
    have hB := hb1.keeps I1.bk
    obtain ⟨hp, g, dr, tk, os⟩ := s1
    refine wpAny_call (x_made TI TX I1.kIn hlim hG hB T.msup (hb2 _ (by decide)) (by have := hr.dp; omega) hv fun h' tk' e d M => ?_)
    show MkP X pins σ Q (.ref e) ⟨h', g, dr, tk', os⟩
    obtain ⟨oe, fv, hoe, hc, hd, hdat, h1⟩ := M.obj
    have hns := M.ns
    obtain ⟨G', g1, g2⟩ := restrict h' fun b => decide (b ≠ e)
    have gk : ∀ b, b ≠ e → G'.get? b = h'.get? b := fun b hb => g1 b (decide_eq_true hb)
    have ge : G'.get? e = none := g2 e (by simp)
    have old : ∀ b o, hp.get? b = some o → G'.get? b = some o := fun b o q => (gk b (Nat.ne_of_lt (Nat.lt_of_lt_of_le (Heap.lt_size q) M.new))).trans (M.keep b o q)
    have ob : ObjOk X.prog X.w (upd H1 d (.xd [(fld, v)])) G' d (.xd [(fld, v)]) := ⟨_, hns.at (fun o q => (gk d M.dne).trans q), fun f => relO_one rv f⟩
    have J : Inv X pins σ (upd H1 d (.xd [(fld, v)])) ⟨G', g, dr, tk', os⟩ := I1.laid (t' := tk') old M.dbig ob
    refine ⟨e, oe, fv, ⟨G', g, dr, tk', os⟩, _, .ref (He.ga X.K c), some d, rfl, J, fun b o q => ?_, ge, hoe, ⟨hc, hd⟩, hdat, h1, ?_, rfl, I1.bare, raises_own T.exC T.tyC, q1 d (I1.hok.fresh M.dbig)⟩
    · by_cases hb : b = e
      · have q' : G'.get? b = some o := q
        rw [hb, ge] at q'
        cases q'
      · exact (gk b hb).symm.trans q
    · rw [upd_ne (Ne.symm M.dne)]
      exact I1.hok.fresh M.new
end

def okMsg (fm : Bool) (d : D) : Bool := !fm || (match d with
  | .str y => decide (y.length ≤ 1000)
  | _ => false)
def vRaise (c fld : Str) (fm : Bool) (f : M D) : VS := sb f fun d ρ => if okMsg fm d = true then .ex c [fld] [d] ρ else .no
section
variable {K : PySem.W.Frag} {μ : Mu} {W : WX} {X : Cx} {c fld : Str} {fm : Bool} {f : M D} {k : Nat} {a : Expr} {p pos pos2 : Pos}
theorem s_raise (T : XMk X.prog X.K X.mg c fld fm) (hr : RoomG k X.A) (tk : Takes X W) (hg : Gl X c) (ha : PE X a (lE K μ W f)) (hc : X.calm = true := by rfl) (hK : X.K = K := by rfl) (hdb : (c == ("__debug__" : Str)) = false := by decide)
    (he : starEach (a :: []) X.env = (false, eval a X.env) :: starEach [] X.env := by rfl) (hpl : (backTo pos (starEach [] X.env)).any (·.1) = false := by rfl) :
    PS X (.Raise (some (.Call (.Name c p) [a] [] pos)) none pos2) (lS K μ W (vRaise c fld fm f)) := by
  subst hK
  refine PS_of (ps_raise hc tk (pmk_x T hr.r (pa_cons ha pa_nil he) hg hdb he hpl)) fun Dn σ H ⟨ρ, G, R, w⟩ => ⟨ρ, G, R, (PostS.bind w).imp fun d ρ1 H1 G1 R1 S1 h v rv => ⟨v, rfl, ?_, ?_⟩⟩
  · intro e
    subst e
    by_cases q : okMsg true d = true
    · cases rv with
      | str y => exact ⟨y, rfl, of_decide_eq_true q⟩
      | _ => cases q
    · simp only [if_neg q] at h; exact h.elim
  · intro dd hd
    by_cases q : okMsg fm d = true
    · simp only [if_pos q] at h
      have al := Alloc.new (u := .xd [(fld, v)]) R1.vis hd
      exact h σ dd [(fld, v)] _ _ (R1.alloc al) al.step upd_same rfl (.one (rv.up al.g))
    · simp only [if_neg q] at h; exact h.elim
end
end Vi

namespace Vi
open PySem PySem.Spec L2

def noX (ρ : En) : Bool := ρ.all fun s => match s with
  | .exc _ _ _ => false
  | _ => true
def endX (i : Nat) : SR → SR
  | .nx ρ => if noX (ρ.set i .emp) then .nx (ρ.set i .emp) else .no
  | .rt d ρ => if noX (ρ.set i .emp) then .rt d (ρ.set i .emp) else .no
  | .bk ρ => if noX (ρ.set i .emp) then .bk (ρ.set i .emp) else .no
  | .ct ρ => if noX (ρ.set i .emp) then .ct (ρ.set i .emp) else .no
  | _ => .no
def vTryAs (hit : Str → Bool) (i : Nat) (b s : VS) : VS := fun ρ => match b ρ with
  | .ex c ns ds ρ' => if (hit c && noX ρ') = true then endX i (s (ρ'.set i (.exc c ns ds))) else .no
  | r => r
section
variable {K : PySem.W.Frag} {μ μ' : Mu} {W : WX} {σ : St} {ρ : En} {H G : Hp}
theorem Rl.setN (R : Rl K μ σ H ρ G) (i : Nat) {s : Sl} {o : Option V} (hs : ¬ isOw (some s)) (r : SlR K μ H G s o) : Rl K μ (σ.set i o) H (ρ.set i s) G ∧ Step σ ρ H G (σ.set i o) (ρ.set i s) H G := by
  have ow : ∀ j b, ownAt (σ.set i o) (ρ.set i s) j b → ownAt σ ρ j b := fun j b h => ow_set hs h R.len
  refine ⟨⟨by rw [List.length_set, List.length_set]; exact R.len, fun j t q => ?_, R.vis, fun j k b h1 h2 => R.apart j k b (ow j b h1) (ow k b h2)⟩, ⟨.refl _, fun _ _ h _ => h, fun _ h => h, fun j b h => .inr ⟨j, ow j b h⟩, fun _ _ h => .inl h⟩⟩
  rw [getS_set'] at q
  by_cases e : i = j ∧ i < ρ.length
  · rw [if_pos e] at q
    cases q
    obtain ⟨rfl, hi⟩ := e
    exact ⟨_, List.getElem?_set_self (by rw [R.len]; exact hi), r⟩
  · rw [if_neg e] at q
    obtain ⟨o', h1, h2⟩ := R.slot j t q
    refine ⟨o', ?_, h2⟩
    by_cases z : i = j
    · subst z
      rw [List.set_eq_of_length_le (by rw [R.len]; exact Nat.le_of_not_lt fun y => e ⟨rfl, y⟩)]
      exact h1
    · rw [List.getElem?_set_ne z]
      exact h1
theorem noX_at {i : Nat} {s : Sl} (h : noX ρ = true) (e : ρ[i]? = some s) : ∀ c ns ds, s ≠ .exc c ns ds := fun c ns ds z => by
  subst z
  have m := List.mem_of_getElem? e
  have := List.all_eq_true.mp h _ m
  cases this
/-- where no slot holds an exception, the exception's place says nothing -/
theorem Rl.mu (R : Rl K μ σ H ρ G) (hn : noX ρ = true) (hm : μ'.m = μ.m) : Rl K μ' σ H ρ G := by
  refine ⟨R.len, fun i s q => ?_, R.vis, R.apart⟩
  obtain ⟨o, h1, h2⟩ := R.slot i s q
  refine ⟨o, h1, ?_⟩
  cases s with
  | emp => trivial
  | dat d => exact h2
  | own m => exact h2
  | mu m => obtain ⟨u, e1, e2, e3, r⟩ := h2; exact ⟨u, by rw [hm]; exact e1, by rw [hm]; exact e2, by rw [hm]; exact e3, r⟩
  | exc c ns ds => exact absurd rfl (noX_at hn q c ns ds)
end
section
variable {μ : Mu} {W : WX} {X : Cx} {x n : Str} {cv : Value} {i : Nat} {body suite : List Stmt} {b₀ : Stmt} {np pos pos' : Pos} {hit : Str → Bool} {b s : VS}
theorem s_try (hh : ∀ c, hit c = true → PySem.W.exmOne X.K (.ref (He.ga X.K c)) cv = some true) (hc : Names X x cv) (tk : Takes X W) (hN : X.N.Nodup) (hi : X.N[i]? = some n) (hln : X.env.kindOf n = some .local)
    (hb : ∀ (W' : WX) (pn : List (Addr × Obj)) (xe : Value → Shared → Prop), Takes (X.tr pn xe) W' → PassesOwn (model X.prog X.w) X.A X.env xe → PSs (X.tr pn xe) body (lS X.K μ W' b))
    (hsu : ∀ (a : Addr) (oe : Obj) (cls : Value) (d : Option Addr) (pn : List (Addr × Obj)), Zc cls d oe → (∃ vs, oe.data = .fields vs) → PSs (X.suite a ((a, oe) :: pn)) (b₀ :: suite) (lS X.K ⟨μ.m, a, cls, d⟩ W0 s))
    (hs : X.stack = X.env :: X.outer := by rfl) (hf : X.env.frame = some X.env.locals := by rfl) :
    PS X (.Try body [.ExceptHandler (some (.Name x np)) (some n) (b₀ :: suite) pos'] [] [] pos) (lS X.K μ W (vTryAs hit i b s)) := by
  refine PS_of (ps_try_as hs hf hN hi hln hc tk (tb := fun W => lS X.K μ W b) hb (ts := fun a cls d => lS X.K ⟨μ.m, a, cls, d⟩ W0 s) hsu) fun Dn σ H ⟨ρ, G, R, w⟩ => ⟨ρ, G, R, ?_⟩
  unfold vTryAs at w
  cases eb : b ρ with
  | nx ρ' => rw [eb] at w; exact w
  | rt d ρ' => rw [eb] at w; exact w
  | ro m ρ' => rw [eb] at w; exact w
  | bk ρ' => rw [eb] at w; exact w
  | ct ρ' => rw [eb] at w; exact w
  | no => rw [eb] at w; exact w
  | ex c ns ds ρ' =>
    rw [eb] at w
    simp only at w
    by_cases hx : (hit c && noX ρ') = true
    · rw [if_pos hx] at w
      obtain ⟨h1, h2⟩ := Bool.and_eq_true_iff.mp hx
      intro σ' dd fs H' G' R' S' hd hns hra
      refine ⟨true, hh c h1, fun _ a ha => ?_, fun z => nomatch z⟩
      obtain ⟨R2, S2⟩ := (R'.mu (μ' := ⟨μ.m, a, .ref (He.ga X.K c), some dd⟩) h2 rfl).setN i (s := .exc c ns ds) (o := some (.ref a)) (fun z => z) ⟨rfl, rfl, dd, fs, rfl, hd, hns, hra⟩
      have S3 := S'.trans S2
      refine ⟨ρ'.set i (.exc c ns ds), G', R2, ?_⟩
      have fin : ∀ (ρ2 : En), noX (ρ2.set i .emp) = true → ∀ σ2 H2 G2, Rl X.K ⟨μ.m, a, .ref (He.ga X.K c), some dd⟩ σ2 H2 ρ2 G2 → Step (σ'.set i (some (.ref a))) (ρ'.set i (.exc c ns ds)) H' G' σ2 ρ2 H2 G2 → ∀ o, Rl X.K μ (σ2.set i o) H2 (ρ2.set i .emp) G2 ∧ Step σ ρ H G (σ2.set i o) (ρ2.set i .emp) H2 G2 := fun ρ2 hn σ2 H2 G2 R4 S4 o => by
        obtain ⟨R5, S5⟩ := R4.setN i (s := .emp) (o := o) (fun z => z) True.intro
        exact ⟨R5.mu hn rfl, (S3.trans S4).trans S5⟩
      cases es : s (ρ'.set i (.exc c ns ds)) with
      | nx ρ2 =>
        rw [es] at w
        by_cases hn : noX (ρ2.set i .emp) = true
        · simp only [endX, if_pos hn] at w
          exact fun σ2 H2 G2 R4 S4 => let ⟨R5, S5⟩ := fin ρ2 hn σ2 H2 G2 R4 S4 none; w _ _ _ R5 S5
        · simp only [endX, if_neg hn] at w; exact w.elim
      | bk ρ2 =>
        rw [es] at w
        by_cases hn : noX (ρ2.set i .emp) = true
        · simp only [endX, if_pos hn] at w
          exact fun σ2 H2 G2 R4 S4 => let ⟨R5, S5⟩ := fin ρ2 hn σ2 H2 G2 R4 S4 none; w _ _ _ R5 S5
        · simp only [endX, if_neg hn] at w; exact w.elim
      | ct ρ2 =>
        rw [es] at w
        by_cases hn : noX (ρ2.set i .emp) = true
        · simp only [endX, if_pos hn] at w
          exact fun σ2 H2 G2 R4 S4 => let ⟨R5, S5⟩ := fin ρ2 hn σ2 H2 G2 R4 S4 none; w _ _ _ R5 S5
        · simp only [endX, if_neg hn] at w; exact w.elim
      | rt d ρ2 =>
        rw [es] at w
        by_cases hn : noX (ρ2.set i .emp) = true
        · simp only [endX, if_pos hn] at w
          exact fun σ2 H2 G2 v R4 S4 rv => let ⟨R5, S5⟩ := fin ρ2 hn σ2 H2 G2 R4 S4 none; w _ _ _ v R5 S5 rv
        · simp only [endX, if_neg hn] at w; exact w.elim
      | ro m ρ2 => rw [es] at w; exact w.elim
      | ex c2 n2 d2 ρ2 => rw [es] at w; exact w.elim
      | no => rw [es] at w; exact w.elim
    · rw [if_neg hx] at w; exact w.elim
end

def vIsE (f : Str → Option Bool) (i : Nat) : M D := fun ρ => match ρ[i]? with
  | some (.exc c _ _) => (match f c with
    | some b => .ok (.bl b) ρ
    | none => .no)
  | _ => .no
def lkD : Str → List Str → List D → Option D
  | f, n :: ns, d :: ds => if f = n then some d else lkD f ns ds
  | _, _, _ => none
def vXf (cs : List Str) (f : Str) (i : Nat) : M D := fun ρ => match ρ[i]? with
  | some (.exc c ns ds) => if c ∈ cs then (match lkD f ns ds with
    | some d => .ok d ρ
    | none => .no) else .no
  | _ => .no
theorem lkD_at {K : PySem.W.Frag} {G : Hp} {f : Str} {d : D} : ∀ {fs : List (Str × V)} {ds : List D}, RpA K G (fs.map (·.2)) ds → lkD f (fs.map (·.1)) ds = some d → ∃ v, fs.lookup f = some v ∧ Rp K G v d
  | [], ds, r, h => by cases ds <;> cases h
  | (g, v) :: fs, [], r, h => by cases h
  | (g, v) :: fs, e :: ds, r, h => by
    cases r with
    | cons r1 r2 =>
      have h' : (if f = g then some e else lkD f (fs.map (·.1)) ds) = some d := h
      by_cases q : f = g
      · rw [if_pos q] at h'
        cases h'
        subst q
        exact ⟨v, by simp [List.lookup], r1⟩
      · rw [if_neg q] at h'
        obtain ⟨u, h1, h2⟩ := lkD_at r2 h'
        have qb : (f == g) = false := by simpa using q
        exact ⟨u, by simp only [List.lookup, qb]; exact h1, h2⟩
section
open PySem.W PySem.Calls PyProof.Rows
variable {prog : Program} {w : World} {A : Around} {E : Value → Shared → Prop} {s : Shared} {K : Frag} {x D : Addr} {ox od : Obj}
/-- e.__class__, e an exception that has a dict -/
theorem class_of_exc {Q : Option Value → Shared → Prop} (C : ExcC K D) (X : K.In s.heap) (I : InstAt s.heap x ox D (some od)) (h : Q (some (.ref D)) { s with toks := s.toks + 1 }) : wpAny (model prog w) A (getAttr? (.ref x) "__class__") Q E s := by
  obtain ⟨cdD, hcD, _⟩ := any_some C.hd
  have hf : findObj K D (some od) "__class__" = some (.bind (.builtin "getset_descriptor.__get__") (.builtin "object.__class__")) := findObj_data (by rw [hcD]; rfl) C.ha C.hn C.ht
  obtain ⟨hp, g, d, t, os⟩ := s
  have ty := I.type (M := model prog w)
  have ga := looks_findIn (M := model prog w) X C.hg
  have gg := looks_findIn (M := model prog w) X C.hk
  have fo := looks_find (M := model prog w) X I hf
  have sub : Looks (model prog w) hp (isInstance (.ref x) (.type "BaseException")) true := ty.andThen (looks_subIn X C.hs)
  have no : (Value.builtin "BaseException.__getattribute__" == Value.builtin "object.__getattribute__") = false := by decide +kernel
  have n1 : (onTheHeap (Value.ref D) && Value.builtin "BaseException.__getattribute__" == Value.builtin "object.__getattribute__") = false := by rw [no]; rfl
  have n2 : (false && onTheHeap (Value.builtin "BaseException.__getattribute__")) = false := rfl
  unfold getAttr? getAttrBy? getAttrBy
  refine wpAny_bind (wpAny_mkText (wpAny_bind (wpAny_attempt (wpAny_holding (wpAny_bind (ty.at (wpAny_bind (ga.at ?_))))))))
  show wpAny _ _ (if (onTheHeap (Value.ref D) && Value.builtin "BaseException.__getattribute__" == Value.builtin "object.__getattribute__") = true then _ else _) _ _ _
  rw [n1, if_neg Bool.false_ne_true]
  unfold getAttrByItsOwn hookBefore
  refine wpAny_bind ?_
  rw [if_pos (show onTheHeap (Value.ref D) = true from rfl)]
  refine gg.at (wpAny_bind (wpAny_attempt (wpAny_holding ?_)))
  unfold callGetattribute
  rw [n2, if_neg Bool.false_ne_true]
  unfold boundAndCalled
  rw [PySem.F.excAttr_ValueError.ga.bind (.ref x)]
  refine wpAny_bind (wpAny_pure ?_)
  show wpAny _ _ (call (.builtin "BaseException.__getattribute__") [.ref x, .str "__class__" t]) _ _ _
  refine wpAny_call (codeAny_call_builtin PySem.F.excAttr_ValueError.ga.plain PySem.F.entry_bexc_ga ?_)
  refine @check_slot (model prog w) _ _ ⟨hp, g, d, t + 1, os⟩ "BaseException.__getattribute__" "BaseException" "__getattribute__" (.ref x) [.str "__class__" t] [] _ (by decide +kernel) (by decide +kernel) sub (PySem.F.args_bexc_ga (.ref x) (.str "__class__" t)) ?_
  unfold Builtin.«object.__getattribute__»
  refine wpAny_bind (wpAny_of_eq (a := ((Value.ref x : Value), [Value.str "__class__" t])) (by first | rfl | (simp only [slotArgs]; rfl)) ?_)
  refine wpAny_bind (wpAny_pure (wpAny_bind (ty.at (wpAny_bind (fo.at ?_)))))
  show wpAny _ _ (holding [Value.builtin "object.__class__"] (call (.builtin "getset_descriptor.__get__") [.builtin "object.__class__", .ref x, .ref D]) >>= PySem.ret) _ _ _
  refine wpAny_bind (wpAny_holding (wpAny_call (class_get (s := ⟨hp, g, d, t + 1, os⟩) (ox := ox) (od := some od) X I C.hm (wpAny_pure ?_))))
  show wpAny _ _ (handedOut (.ref D)) _ _ _
  rw [handedOut_of (v := .ref D) rfl]
  first
    | exact wpAny_pure (wpAny_pure h)
    | exact wpAny_pure h
    | exact wpAny_pure (wpAny_bind (wpAny_pure (wpAny_pure h)))
theorem kit_exc (C : ExcC K D) : KitX K (.ref x) (.ref D) (fun h => InstAt h x ox D (some od)) where
  ty := fun _ _ _ I => I.type
  it := fun M h X _ => by
    obtain ⟨cd, hc, _⟩ := any_some C.hd
    unfold clsIn at hc
    split at hc
    · rename_i c' d' cd' sl' ho
      exact fun A' Q' E' s' k q => by
        unfold isType loadHead
        exact wpAny_bind (wpAny_loadPart (k _ _ (X _ _ ho)) (wpAny_pure q))
    · cases hc
  ne := fun h tp dd its n sl X htp => (PySem.W.handS_kitx_exc (x := x) (ox := ox) C.hg C.hk C.hs C.hd C.ha C.hn C.ht C.hm).ne h tp dd its n sl X htp
  ca := fun X I k => class_of_exc C X I k
end
/-- isinstance(e, T), e the exception that the suite holds -/
def rIsX (K : PySem.W.Frag) (a : Addr) (cls : Value) (d : Option Addr) : List V → Hp → VK → Prop := fun xs H Q => ∃ (c : V) (cv : Value) (b : Bool) (C dd : Addr) (fs : List (Str × V)), xs = [.ref a, c] ∧ cls = .ref C ∧ d = some dd ∧ H dd = some (.xd fs) ∧ ExcC K C ∧ (∀ u, RelV c u → u = cv) ∧ PySem.W.kitOne K (.ref C) cv = some b ∧ Q (.bl b) H
theorem call_isX {X : Cx} {a : Addr} {cls : Value} {d : Option Addr} {oe : Obj} {pn : List (Addr × Obj)} (hz : Zc cls d oe) (hf : ∃ vs, oe.data = .fields vs) : CallR (X.suite a ((a, oe) :: pn)) (.builtin "isinstance") (rIsX X.K a cls d) := by
  intro pins s σ H xs us Q I r h
  obtain ⟨c, cv, b, C, dd, fs, rfl, rfl, rfl, hdd, XC, hcv, e, q⟩ := h
  cases r with
  | cons rx rr =>
    cases rr with
    | cons rt rr =>
      cases rr
      cases rx
      have ec := hcv _ rt
      subst ec
      obtain ⟨hget, _⟩ := I.pin (a, oe) (List.mem_append.mpr (.inl List.mem_cons_self))
      obtain ⟨vs, hv⟩ := hf
      have hx : ObjOk X.prog X.w H s.heap dd (.xd fs) := I.hok dd _ hdd
      obtain ⟨mA, hns, hr⟩ := hx
      obtain ⟨od, ho, hl⟩ := lookIn_ns hns
      have J : PySem.W.InstAt s.heap a oe C (some od) := ⟨hget, hz.1, by unfold PySem.W.notCls; rw [hv] <;> rfl, by rw [hz.2]; exact ho⟩
      exact PySem.W.kia_one (kit_exc XC) I.kIn J e (fun z => nomatch z) fun tk => ⟨.bl b, H, I.kept (t' := tk) fun _ _ z => z, rfl, q⟩
section
variable {W : WX} {X : Cx} {m a : Addr} {cls : Value} {d : Option Addr} {oe : Obj} {pn : List (Addr × Obj)} {i : Nat} {e : Expr} {p pos : Pos}
theorem v_isE {f : Str → Option Bool} {x : Str} {p2 : Pos} {c : V} {cv : Value} (hz : Zc cls d oe) (hf : ∃ vs, oe.data = .fields vs) (hE : ∀ c b, f c = some b → ExcC X.K (He.ga X.K c)) (hk : ∀ c b, f c = some b → PySem.W.kitOne X.K (.ref (He.ga X.K c)) cv = some b)
    (hg : Gl X "isinstance") (hm : X.mg "isinstance" = none) (he : PE (X.suite a ((a, oe) :: pn)) e (tVar i)) (hb : PE (X.suite a ((a, oe) :: pn)) (.Name x p2) (tC c)) (hv : ∀ u, RelV c u → u = cv)
    (h1 : starEach [e, .Name x p2] X.env = (false, eval e X.env) :: starEach [.Name x p2] X.env := by rfl) (h2 : starEach [.Name x p2] X.env = (false, eval (.Name x p2) X.env) :: starEach [] X.env := by rfl) (hpl : (backTo pos (starEach [.Name x p2] X.env)).any (·.1) = false := by rfl) :
    PE (X.suite a ((a, oe) :: pn)) (.Call (.Name "isinstance" p) [e, .Name x p2] [] pos) (lE X.K ⟨m, a, cls, d⟩ W (vIsE f i)) := by
  refine PE_of (pe_callB (call_isX hz hf) hg hm (by decide +kernel) (pa_cons he (pa_cons hb pa_nil h2) h1) (by decide) (by decide) h1 hpl) fun σ H Q ⟨ρ, G, R, w⟩ => ?_
  unfold vIsE at w
  cases q : ρ[i]? with
  | none => rw [q] at w; exact w.elim
  | some s =>
    rw [q] at w
    cases s with
    | exc c' ns ds =>
      simp only at w
      cases q2 : f c' with
      | none => rw [q2] at w; exact w.elim
      | some b =>
        rw [q2] at w
        obtain ⟨o, h3, rfl, ec, dd, fs, ed, hd, hns, hra⟩ := R.slot i _ q
        exact ⟨.ref a, h3, _, _, b, _, dd, fs, rfl, ec, ed, R.vis _ _ hd, hE _ _ q2, hv, hk _ _ q2, Post.ret R w _ (.bl b)⟩
    | _ => exact w.elim
/-- e.f, e the exception that the suite holds -/
theorem v_xf {cs : List Str} {n : Str} (hz : Zc cls d oe) (hf : ∃ vs, oe.data = .fields vs) (hC : ∀ c ∈ cs, XfC X.K (He.ga X.K c) ∧ PySem.W.findIn X.K (.ref (He.ga X.K c)) n = some none) (he : PE (X.suite a ((a, oe) :: pn)) e (tVar i)) (hb : attributeBase e n X.env (eval e X.env) = eval e X.env := by rfl) :
    PE (X.suite a ((a, oe) :: pn)) (.Attribute e n pos) (lE X.K ⟨m, a, cls, d⟩ W (vXf cs n i)) := by
  refine ⟨fun pins s σ H Q I w => ?_⟩
  obtain ⟨ρ, G, R, w⟩ := w
  unfold vXf at w
  cases q : ρ[i]? with
  | none => rw [q] at w; exact w.elim
  | some sl =>
    rw [q] at w
    cases sl with
    | exc c' ns ds =>
      simp only at w
      by_cases hm : c' ∈ cs
      · rw [if_pos hm] at w
        cases q2 : lkD n ns ds with
        | none => rw [q2] at w; exact w.elim
        | some y =>
          rw [q2] at w
          obtain ⟨o, h3, rfl, ec, dd, fs, ed, hd, hns, hra⟩ := R.slot i _ q
          subst hns
          obtain ⟨v, hl, rv⟩ := lkD_at hra q2
          obtain ⟨T, hno⟩ := hC c' hm
          exact (pe_xf (C := He.ga X.K c') T hno hz hf he hb).run pins s σ H Q I ⟨_, h3, rfl, ec, dd, fs, v, ed, R.vis _ _ hd, hl, Post.ret R w v rv⟩
      · rw [if_neg hm] at w; exact w.elim
    | _ => exact w.elim
end
end Vi

namespace Vi
open PySem PySem.Spec L2

mutual
def pyD : D → Option PyData
  | .non => some .none
  | .bl b => some (.bool b)
  | .int i => if i.natAbs.log2 < 1920 then some (.int i) else none
  | .str x => some (.str x)
  | .lst xs => (match pyA xs with
    | some ps => some (.list ps)
    | none => none)
  | .fro xs => (match pyA xs with
    | some ps => some (.list ps)
    | none => none)
  | .tup xs => (match pyA xs with
    | some ps => some (.tuple ps)
    | none => none)
  | .dic _ _ => none
  | .ins _ _ _ => none
def pyA : List D → Option (List PyData)
  | [] => some []
  | d :: ds => (match pyD d, pyA ds with
    | some p, some ps => some (p :: ps)
    | _, _ => none)
end
theorem pyA_cons {d : D} {ds : List D} {qs : List PyData} (h : pyA (d :: ds) = some qs) : ∃ p ps, pyD d = some p ∧ pyA ds = some ps ∧ qs = p :: ps := by
  unfold pyA at h
  cases e1 : pyD d with
  | none => simp only [e1] at h; cases h
  | some p =>
    cases e2 : pyA ds with
    | none => simp only [e1, e2] at h; cases h
    | some ps => simp only [e1, e2] at h; cases h; exact ⟨p, ps, rfl, rfl, rfl⟩
mutual
theorem pyD_show : ∀ (d : D) (p : PyData), pyD d = some p → p.showable = true ∧ p.hasDict = false
  | .non, p, h => by unfold pyD at h; cases h; exact ⟨by simp [PyData.showable], by simp [PyData.hasDict]⟩
  | .bl b, p, h => by unfold pyD at h; cases h; exact ⟨by simp [PyData.showable], by simp [PyData.hasDict]⟩
  | .str x, p, h => by unfold pyD at h; cases h; exact ⟨by simp [PyData.showable], by simp [PyData.hasDict]⟩
  | .int i, p, h => by
    unfold pyD at h
    by_cases q : i.natAbs.log2 < 1920
    · rw [if_pos q] at h; cases h; exact ⟨by simp [PyData.showable, q], by simp [PyData.hasDict]⟩
    · rw [if_neg q] at h; cases h
  | .lst xs, p, h => by
    unfold pyD at h
    cases e : pyA xs with
    | none => simp only [e] at h; cases h
    | some ps => simp only [e] at h; cases h; exact ⟨by rw [PyData.showable]; exact (pyA_show xs ps e).1, by rw [PyData.hasDict]; exact (pyA_show xs ps e).2⟩
  | .fro xs, p, h => by
    unfold pyD at h
    cases e : pyA xs with
    | none => simp only [e] at h; cases h
    | some ps => simp only [e] at h; cases h; exact ⟨by rw [PyData.showable]; exact (pyA_show xs ps e).1, by rw [PyData.hasDict]; exact (pyA_show xs ps e).2⟩
  | .tup xs, p, h => by
    unfold pyD at h
    cases e : pyA xs with
    | none => simp only [e] at h; cases h
    | some ps => simp only [e] at h; cases h; exact ⟨by rw [PyData.showable]; exact (pyA_show xs ps e).1, by rw [PyData.hasDict]; exact (pyA_show xs ps e).2⟩
  | .dic _ _, p, h => by unfold pyD at h; cases h
  | .ins _ _ _, p, h => by unfold pyD at h; cases h
theorem pyA_show : ∀ (ds : List D) (ps : List PyData), pyA ds = some ps → PyData.showableAll ps = true ∧ PyData.hasDictAll ps = false
  | [], ps, h => by unfold pyA at h; cases h; exact ⟨by simp [PyData.showableAll], by simp [PyData.hasDictAll]⟩
  | d :: ds, ps, h => by
    obtain ⟨p, qs, h1, h2, rfl⟩ := pyA_cons h
    obtain ⟨a, b⟩ := pyD_show d p h1
    obtain ⟨a', b'⟩ := pyA_show ds qs h2
    exact ⟨by rw [PyData.showableAll, a, a']; rfl, by rw [PyData.hasDictAll, b, b']; rfl⟩
end
section
variable {X : Cx} {pins : List (Addr × Obj)} {σ : St} {H G : Hp} {s : Shared}
mutual
theorem reads_of (I : Inv X pins σ H s) (sg : Same G H) : ∀ (d : D) (x : V) (u : Value) (p : PyData), Rp X.K G x d → RelV x u → pyD d = some p → ∃ as, Reads s.heap u p as
  | .non, x, u, p, r, ru, h => by unfold pyD at h; cases h; cases r; obtain rfl : u = Value.none := ru; exact ⟨[], .none⟩
  | .bl b, x, u, p, r, ru, h => by unfold pyD at h; cases h; cases r; obtain rfl : u = Value.bool b := ru; exact ⟨[], .bool b⟩
  | .str z, x, u, p, r, ru, h => by unfold pyD at h; cases h; cases r; obtain ⟨t, rfl⟩ := ru; exact ⟨[], .str z t⟩
  | .int i, x, u, p, r, ru, h => by
    unfold pyD at h
    by_cases q : i.natAbs.log2 < 1920
    · rw [if_pos q] at h; cases h; cases r; obtain ⟨t, rfl⟩ := ru; exact ⟨[], .int i t⟩
    · rw [if_neg q] at h; cases h
  | .lst ds, x, u, p, r, ru, h => by
    unfold pyD at h
    cases e : pyA ds with
    | none => simp only [e] at h; cases h
    | some ps =>
      simp only [e] at h
      cases h
      cases r with
      | @lst a xs _ ha hr =>
        obtain rfl : u = Value.ref a := ru
        obtain ⟨its, rv, ⟨o, n, h1, h2, _, h3⟩, _⟩ := I.list (SqL.of (sg _ _ ha))
        obtain ⟨as, h4⟩ := readsA_of I sg ds xs its ps hr rv e
        exact ⟨_, .list h1 h2 h3 (by simpa using h4)⟩
  | .fro ds, x, u, p, r, ru, h => by
    unfold pyD at h
    cases e : pyA ds with
    | none => simp only [e] at h; cases h
    | some ps =>
      simp only [e] at h
      cases h
      cases r with
      | @fro a xs _ ha hr =>
        obtain rfl : u = Value.ref a := ru
        obtain ⟨its, rv, ⟨o, n, h1, h2, _, h3⟩, _⟩ := I.list (sg.seq ha)
        obtain ⟨as, h4⟩ := readsA_of I sg ds xs its ps hr rv e
        exact ⟨_, .list h1 h2 h3 (by simpa using h4)⟩
  | .tup ds, x, u, p, r, ru, h => by
    unfold pyD at h
    cases e : pyA ds with
    | none => simp only [e] at h; cases h
    | some ps =>
      simp only [e] at h
      cases h
      cases r with
      | @tup a xs _ ha hr =>
        obtain rfl : u = Value.ref a := ru
        obtain ⟨its, rv, ⟨o, h1, h2, n, h3⟩, _⟩ := I.tuple (sqT_mono sg ha)
        obtain ⟨as, h4⟩ := readsA_of I sg ds xs its ps hr rv e
        exact ⟨_, .tuple h1 h2 h3 (by simpa using h4)⟩
  | .dic _ _, x, u, p, r, ru, h => by unfold pyD at h; cases h
  | .ins _ _ _, x, u, p, r, ru, h => by unfold pyD at h; cases h
theorem readsA_of (I : Inv X pins σ H s) (sg : Same G H) : ∀ (ds : List D) (xs : List V) (us : List Value) (ps : List PyData), RpA X.K G xs ds → Vals xs us → pyA ds = some ps → ∃ as, ReadsAll s.heap us ps as
  | [], xs, us, ps, r, ru, h => by unfold pyA at h; cases h; cases r; cases ru; exact ⟨[], .nil⟩
  | d :: ds, xs, us, ps, r, ru, h => by
    obtain ⟨p, qs, h1, h2, rfl⟩ := pyA_cons h
    cases r with
    | cons r1 r2 =>
      cases ru with
      | cons u1 u2 =>
        obtain ⟨as, k1⟩ := reads_of I sg d _ _ p r1 u1 h1
        obtain ⟨bs, k2⟩ := readsA_of I sg ds _ _ qs r2 u2 h2
        exact ⟨_, .cons k1 k2⟩
end
end

def pyK : Key → Option PyData
  | .inl i => if i.natAbs.log2 < 1920 then some (.int i) else none
  | .inr x => some (.str x)
def pyS : D → Option PyData
  | .non => some .none
  | .bl b => some (.bool b)
  | .int i => if i.natAbs.log2 < 1920 then some (.int i) else none
  | .str x => some (.str x)
  | _ => none
def pyKv : List Key → List D → Option (List (PyData × PyData))
  | [], [] => some []
  | k :: ks, d :: ds => (match pyK k, pyS d, pyKv ks ds with
    | some a, some b, some r => some ((a, b) :: r)
    | _, _, _ => none)
  | _, _ => none
def topD : D → Option PyData
  | .dic ks ds => (match pyKv ks ds with
    | some r => some (.dict r)
    | none => none)
  | d => pyD d
theorem pyKv_cons {k : Key} {ks : List Key} {d : D} {ds : List D} {r : List (PyData × PyData)} (h : pyKv (k :: ks) (d :: ds) = some r) : ∃ a b t, pyK k = some a ∧ pyS d = some b ∧ pyKv ks ds = some t ∧ r = (a, b) :: t := by
  unfold pyKv at h
  cases e1 : pyK k with
  | none => simp only [e1] at h; cases h
  | some a =>
    cases e2 : pyS d with
    | none => simp only [e1, e2] at h; cases h
    | some b =>
      cases e3 : pyKv ks ds with
      | none => simp only [e1, e2, e3] at h; cases h
      | some t => simp only [e1, e2, e3] at h; cases h; exact ⟨a, b, t, rfl, rfl, rfl, rfl⟩
section
variable {K : PySem.W.Frag} {G : Hp} {h : Heap}
theorem pyS_reads {d : D} {x : V} {u : Value} {p : PyData} (r : Rp K G x d) (ru : RelV x u) (e : pyS d = some p) : Reads h u p [] ∧ p.showable = true := by
  cases d with
  | non => cases e; cases r; obtain rfl : u = Value.none := ru; exact ⟨.none, by simp [PyData.showable]⟩
  | bl b => cases e; cases r; obtain rfl : u = Value.bool b := ru; exact ⟨.bool b, by simp [PyData.showable]⟩
  | str z => cases e; cases r; obtain ⟨t, rfl⟩ := ru; exact ⟨.str z t, by simp [PyData.showable]⟩
  | int i =>
    unfold pyS at e
    by_cases q : i.natAbs.log2 < 1920
    · simp only [if_pos q] at e; cases e; cases r; obtain ⟨t, rfl⟩ := ru; exact ⟨.int i t, by simp [PyData.showable, q]⟩
    · simp only [if_neg q] at e; cases e
  | _ => cases e
theorem pyK_reads {k : Key} {u : Value} {p : PyData} (ru : keyIs k u = true) (e : pyK k = some p) : Reads h u p [] ∧ p.showable = true := by
  rcases keyIs_shape ru with ⟨i, t, rfl, rfl⟩ | ⟨z, t, rfl, rfl⟩
  · unfold pyK at e
    by_cases q : i.natAbs.log2 < 1920
    · simp only [if_pos q] at e; cases e; exact ⟨.int i t, by simp [PyData.showable, q]⟩
    · simp only [if_neg q] at e; cases e
  · cases e; exact ⟨.str z t, by simp [PyData.showable]⟩
theorem pyKv_reads {P : Program} {w : World} : ∀ {es : List DictEntry} {vs : List (Key × Value)} {kvs : List (Key × V)} {ds : List D} {r : List (PyData × PyData)}, Pairs (mixKind P w) es vs → KV kvs vs → RpA K G (kvs.map (·.2)) ds → pyKv (kvs.map (·.1)) ds = some r →
    ReadsAll h (es.map (·.key)) (r.map (·.1)) [] ∧ ReadsAll h (es.map (·.val)) (r.map (·.2)) [] ∧ PyData.showableKv r = true
  | [], _, kvs, ds, r, .nil, kv, ra, e => by
    cases kv
    cases ra
    cases e
    exact ⟨.nil, .nil, by simp [PyData.showableKv]⟩
  | en :: es, _, kvs, ds, r, .cons h1 h2 h3, kv, ra, e => by
    cases kv with
    | cons k1 k2 =>
      cases ra with
      | cons r1 r2 =>
        obtain ⟨a, b, t, q1, q2, q3, rfl⟩ := pyKv_cons e
        obtain ⟨y1, y2, y3⟩ := pyKv_reads (P := P) (w := w) h3 k2 r2 q3
        have z1 := pyK_reads (h := h) (p := a) h1 (by rw [← k1.1]; exact q1)
        have z2 := pyS_reads (h := h) (u := en.val) (p := b) r1 (by rw [h2]; exact k1.2) q2
        exact ⟨ReadsAll.cons z1.1 y1, ReadsAll.cons z2.1 y2, by rw [PyData.showableKv, z1.2, z2.2, y3]; rfl⟩
end
def reprOk (p : PyData) : Bool := decide (p.depth ≤ 100) && decide (p.shown.length ≤ sizeLine)
def reprD (d : D) : Option D := match topD d with
  | some p => if reprOk p = true then some (.str p.shown) else none
  | none => none
def strD : D → Option D
  | .str x => some (.str x)
  | .int i => if i.natAbs.log2 < 1920 then some (.str (toString i)) else none
  | .lst xs => reprD (.lst xs)
  | .fro xs => reprD (.fro xs)
  | .tup xs => reprD (.tup xs)
  | _ => none
section
variable {X : Cx} {G : Hp}
/-- what is at a value that is shown -/
structure RdT (K : PySem.W.Frag) (H : Hp) (x : V) (p : PyData) : Prop where
  at_ : ∀ (X : Cx) (pins : List (Addr × Obj)) (σ : St) (s : Shared) (u : Value), X.K = K → Inv X pins σ H s → RelV x u → ∃ as, Reads s.heap u p as ∧ p.showable = true ∧ (p.hasDict = true → sysModules ∉ as)
theorem rdT_of {K : PySem.W.Frag} {H G : Hp} {x : V} {d : D} {p : PyData} (sg : Same G H) (rb : Rb K H G x d) (e : topD d = some p) : RdT K H x p := by
  refine ⟨fun X pins σ s u hK I ru => ?_⟩
  subst hK
  have noD : pyD d = some p → ∃ as, Reads s.heap u p as ∧ p.showable = true ∧ (p.hasDict = true → sysModules ∉ as) := fun e => by
    obtain ⟨h1, h2⟩ := pyD_show d p e
    rcases rb with r | ⟨a, o, m, rfl, hH, hM, rfl⟩
    · obtain ⟨as, h3⟩ := reads_of I sg d x u p r ru e
      exact ⟨as, h3, h1, PyData.noDict_hsm h2⟩
    · cases m with
      | lst ds =>
        obtain ⟨vs, rfl, hr⟩ := hM
        obtain rfl : u = Value.ref a := ru
        have e' : pyD (.lst ds) = some p := e
        unfold pyD at e'
        cases q : pyA ds with
        | none => simp only [q] at e'; cases e'
        | some ps =>
          simp only [q] at e'
          cases e'
          obtain ⟨its, rv, ⟨ob, n, k1, k2, _, k3⟩, _⟩ := I.list (SqL.of hH)
          obtain ⟨as, h4⟩ := readsA_of I sg ds vs its ps hr rv q
          exact ⟨_, .list k1 k2 k3 (by simpa using h4), h1, PyData.noDict_hsm h2⟩
      | dic ks ds => have e' : pyD (.dic ks ds) = some p := e; unfold pyD at e'; cases e'
      | ins c ns ds => have e' : pyD (.ins c ns ds) = some p := e; unfold pyD at e'; cases e'
  have dicC : ∀ (a : Addr) (kvs : List (Key × V)) (ds : List D) (r : List (PyData × PyData)), H a = some (.dK kvs) → RpA X.K G (kvs.map (·.2)) ds → pyKv (kvs.map (·.1)) ds = some r → x = .ref a → p = .dict r → ∃ as, Reads s.heap u p as ∧ p.showable = true ∧ (p.hasDict = true → sysModules ∉ as) := fun a kvs ds r hH hr q ex ep => by
    subst ex ep
    obtain rfl : u = Value.ref a := ru
    obtain ⟨_, hd, vs, kv, ⟨o, es, epp, k1, k2, k3, _, k4, _⟩⟩ := dk_of I.hok hH
    obtain ⟨y1, y2, y3⟩ := pyKv_reads (K := X.K) (G := G) (h := s.heap) k4 kv hr q
    refine ⟨_, .dict k1 k2.1 k3 y1 y2, by rw [PyData.showable]; exact y3, fun _ => ?_⟩
    have ne : ¬ a = sysModules := fun z => by rw [z] at hd; simp at hd
    simpa using fun z => ne z.symm
  cases d with
  | dic ks ds =>
    unfold topD at e
    cases q : pyKv ks ds with
    | none => simp only [q] at e; cases e
    | some r =>
      simp only [q] at e
      cases e
      rcases rb with r' | ⟨a, o, m, ex, hH, hM, em⟩
      · cases r' with
        | dic h1 h2 => exact dicC _ _ _ r (sg _ _ h1) h2 q rfl rfl
      · cases m with
        | dic ks' ds' =>
          cases em
          obtain ⟨kvs, rfl, rfl, h2⟩ := hM
          exact dicC a kvs _ r hH h2 q ex rfl
        | lst _ => cases em
        | ins _ _ _ => cases em
  | _ => exact noD e
def rRep (K : PySem.W.Frag) : List V → Hp → VK → Prop := fun xs H Q => ∃ x p, xs = [x] ∧ RdT K H x p ∧ reprOk p = true ∧ Q (.str p.shown) H
theorem call_reprD {k : Nat} (hr : RoomG k X.A) : CallR X (.builtin "repr") (rRep X.K) := by
  intro pins s σ H xs us Q I r h
  obtain ⟨x, p, rfl, T, ok, q⟩ := h
  obtain ⟨u, rfl, ru⟩ := vals1 r
  · obtain ⟨as, rd, sh, hsm⟩ := T.at_ X pins σ s u rfl I ru
    obtain ⟨h1, h2⟩ := Bool.and_eq_true_iff.mp ok
    have hd := of_decide_eq_true h1
    have hz := of_decide_eq_true h2
    have hu := hr.r.un
    cases rd with
    | none => exact PySem.P.repr_of_none ⟨.str _, H, I.tok _, ⟨_, rfl⟩, by simpa [PyData.shown] using q⟩
    | bool b => exact PySem.P.repr_of_bool ⟨.str _, H, I.tok _, ⟨_, rfl⟩, by simpa [PyData.shown] using q⟩
    | int i t => exact PySem.P.repr_of_int (by simpa [PyData.showable] using sh) ⟨.str _, H, I.tok _, ⟨_, rfl⟩, by simpa [PyData.shown] using q⟩
    | str z t => exact PySem.P.repr_of_str ⟨.str _, H, I.tok _, ⟨_, rfl⟩, by simpa [PyData.shown] using q⟩ (by simpa [PyData.shown] using hz)
    | list a1 a2 a3 a4 => exact repr_of_reads' (.list a1 a2 a3 a4) sh hsm hr.g (by omega) (fun _ _ e => e) (fun h' u' tk hk => ⟨.str _, H, I.kept (t' := tk) hk, ⟨_, rfl⟩, q⟩) hz
    | tuple a1 a2 a3 a4 => exact repr_of_reads' (.tuple a1 a2 a3 a4) sh hsm hr.g (by omega) (fun _ _ e => e) (fun h' u' tk hk => ⟨.str _, H, I.kept (t' := tk) hk, ⟨_, rfl⟩, q⟩) hz
    | dict a1 a2 a3 a4 a5 => exact repr_of_reads' (.dict a1 a2 a3 a4 a5) sh hsm hr.g (by omega) (fun _ _ e => e) (fun h' u' tk hk => ⟨.str _, H, I.kept (t' := tk) hk, ⟨_, rfl⟩, q⟩) hz
theorem o_repr {K : PySem.W.Frag} : SA K (rRep K) (o1 reprD) := fun H G xs ds z Q s r e c => by
  obtain ⟨x, d, rfl, rfl, e1, r1⟩ := r.inv1 e
  unfold reprD at e1
  cases q : topD d with
  | none => rw [q] at e1; cases e1
  | some p =>
    rw [q] at e1
    simp only at e1
    by_cases ok : reprOk p = true
    · rw [if_pos ok] at e1
      cases e1
      exact ⟨x, p, rfl, rdT_of s r1 q, ok, c _ _ _ (.refl s) (.str _)⟩
    · rw [if_neg ok] at e1; cases e1
def seqP : PyData → Bool
  | .list _ => true
  | .tuple _ => true
  | _ => false
def rStr (K : PySem.W.Frag) : List V → Hp → VK → Prop := fun xs H Q => ∃ x, xs = [x] ∧ ((∃ y, x = .str y ∧ Q (.str y) H) ∨ (∃ i : Int, x = .int i ∧ i.natAbs.log2 < 1920 ∧ Q (.str (toString i)) H) ∨ ∃ p, RdT K H x p ∧ reprOk p = true ∧ seqP p = true ∧ Q (.str p.shown) H)
theorem call_strD {k : Nat} (hr : RoomG k X.A) : CallR X (.type "str") (rStr X.K) := by
  intro pins s σ H xs us Q I r h
  obtain ⟨x, rfl, h⟩ := h
  rcases h with ⟨y, rfl, q⟩ | ⟨i, rfl, hz, q⟩ | ⟨p, T, ok, sp, q⟩
  · exact SkE.call_str_str pins s σ H _ us Q I r ⟨y, rfl, q⟩
  · exact call_str_int pins s σ H _ us Q I r ⟨i, rfl, hz, q⟩
  · obtain ⟨u, rfl, ru⟩ := vals1 r
    obtain ⟨as, rd, sh, hsm⟩ := T.at_ X pins σ s u rfl I ru
    obtain ⟨h1, h2⟩ := Bool.and_eq_true_iff.mp ok
    have hd := of_decide_eq_true h1
    have hz := of_decide_eq_true h2
    have hu := hr.r.un
    cases rd with
    | list a1 a2 a3 a4 => exact str_of_reads (.list a1 a2 a3 a4) sh hsm hr.g (by omega) (fun _ _ e => e) (fun h' u' tk hk => ⟨.str _, H, I.kept (t' := tk) hk, ⟨_, rfl⟩, q⟩) hz
    | tuple a1 a2 a3 a4 => exact str_of_reads (.tuple a1 a2 a3 a4) sh hsm hr.g (by omega) (fun _ _ e => e) (fun h' u' tk hk => ⟨.str _, H, I.kept (t' := tk) hk, ⟨_, rfl⟩, q⟩) hz
    | _ => cases sp
theorem o_str {K : PySem.W.Frag} : SA K (rStr K) (o1 strD) := fun H G xs ds z Q s r e c => by
  obtain ⟨x, d, rfl, rfl, e1, r1⟩ := r.inv1 e
  have sq : ∀ (d : D), Rb K H G x d → (∀ p, topD d = some p → seqP p = true) → reprD d = some z → rStr K [x] H Q := fun d r1 hs e1 => by
    unfold reprD at e1
    cases q : topD d with
    | none => rw [q] at e1; cases e1
    | some p =>
      rw [q] at e1
      simp only at e1
      by_cases ok : reprOk p = true
      · rw [if_pos ok] at e1
        cases e1
        exact ⟨x, rfl, .inr (.inr ⟨p, rdT_of s r1 q, ok, hs p q, c _ _ _ (.refl s) (.str _)⟩)⟩
      · rw [if_neg ok] at e1; cases e1
  cases d with
  | str y =>
    cases e1
    rw [r1.str]
    exact ⟨_, rfl, .inl ⟨y, rfl, c _ _ _ (.refl s) (.str _)⟩⟩
  | int i =>
    have e2 : (if i.natAbs.log2 < 1920 then some (D.str (toString i)) else none) = some z := e1
    by_cases q : i.natAbs.log2 < 1920
    · rw [if_pos q] at e2
      cases e2
      rw [r1.int]
      exact ⟨_, rfl, .inr (.inl ⟨i, rfl, q, c _ _ _ (.refl s) (.str _)⟩)⟩
    · rw [if_neg q] at e2; cases e2
  | lst xs =>
    refine sq _ r1 (fun p h => ?_) e1
    have h' : pyD (.lst xs) = some p := h
    unfold pyD at h'
    cases q : pyA xs with
    | none => simp only [q] at h'; cases h'
    | some ps => simp only [q] at h'; cases h'; rfl
  | fro xs =>
    refine sq _ r1 (fun p h => ?_) e1
    have h' : pyD (.fro xs) = some p := h
    unfold pyD at h'
    cases q : pyA xs with
    | none => simp only [q] at h'; cases h'
    | some ps => simp only [q] at h'; cases h'; rfl
  | tup xs =>
    refine sq _ r1 (fun p h => ?_) e1
    have h' : pyD (.tup xs) = some p := h
    unfold pyD at h'
    cases q : pyA xs with
    | none => simp only [q] at h'; cases h'
    | some ps => simp only [q] at h'; cases h'; rfl
  | _ => cases e1
end
end Vi

namespace Vi
open PySem PySem.Spec L2
section
variable {K : PySem.W.Frag} {μ : Mu} {W : WX} {σ : St} {ρ ρ2 : En} {H H2 G G2 : Hp} {p : Addr} {u0 u : HO}
theorem Rl.fill (R : Rl K μ σ H ρ G) (hn : H p = none) (R2 : Rl K μ σ H2 ρ2 G2) (S : Step σ ρ (upd H p u0) G σ ρ2 H2 G2) : H2 p = some u0 ∧ Rl K μ σ (upd H2 p u) ρ2 (upd G2 p u) ∧ Step σ ρ H G σ ρ2 (upd H2 p u) (upd G2 p u) := by
  have no : ∀ i, ¬ ownAt σ ρ i p := fun i q => no_own R hn i q
  have h2 : H2 p = some u0 := S.keep p u0 upd_same no
  have gp : G p = none := R.vis.free hn
  have g2 : G2 p = none := by
    cases q : G2 p with
    | none => rfl
    | some o =>
      rcases S.vis p o q with z | z | ⟨j, z⟩
      · rw [gp] at z; cases z
      · rw [upd_same] at z; cases z
      · exact absurd z (no j)
  have no2 : ∀ i, ¬ ownAt σ ρ2 i p := fun i q => by
    rcases S.ow i p q with z | ⟨j, z⟩
    · rw [upd_same] at z; cases z
    · exact no j z
  have sg : Same G2 (upd G2 p u) := fun b o h => by rw [upd_ne (ne_of_none h g2)]; exact h
  refine ⟨h2, ⟨R2.len, fun i s q => ?_, fun b o h => ?_, R2.apart⟩, ⟨S.g.trans sg, fun b o h n => ?_, fun b h => ?_, fun i b h => ?_, fun b o h => ?_⟩⟩
  · obtain ⟨o, h3, h4⟩ := R2.slot i s q
    refine ⟨o, h3, ?_⟩
    have keepO : ∀ {b : Addr} {w : HO}, ownAt σ ρ2 i b → H2 b = some w → G2 b = none → upd H2 p u b = some w ∧ upd G2 p u b = none := fun {b w} ob e1 e2 => by
      have ne : b ≠ p := fun z => no2 i (by rw [← z]; exact ob)
      rw [upd_ne ne, upd_ne ne]
      exact ⟨e1, e2⟩
    cases s with
    | emp => trivial
    | dat d => obtain ⟨v, e1, r⟩ := h4; exact ⟨v, e1, r.up sg⟩
    | own m =>
      obtain ⟨b, w, e1, e2, e3, r⟩ := h4
      obtain ⟨k1, k2⟩ := keepO ⟨by rw [q]; trivial, by rw [h3, e1]⟩ e2 e3
      exact ⟨b, w, e1, k1, k2, r.up sg⟩
    | mu m =>
      obtain ⟨w, e1, e2, e3, r⟩ := h4
      obtain ⟨k1, k2⟩ := keepO ⟨by rw [q]; trivial, by rw [h3, e1]⟩ e2 e3
      exact ⟨w, e1, k1, k2, r.up sg⟩
    | exc c ns ds => obtain ⟨e1, e2, dd, fs, e3, e4, e5, r⟩ := h4; exact ⟨e1, e2, dd, fs, e3, sg _ _ e4, e5, r.up sg⟩
  · by_cases z : b = p
    · subst z; rw [upd_same] at h ⊢; exact h
    · rw [upd_ne z] at h ⊢; exact R2.vis b o h
  · have ne : b ≠ p := fun z => by rw [z, hn] at h; cases h
    rw [upd_ne ne]
    exact S.keep b o (by rw [upd_ne ne]; exact h) n
  · have ne : b ≠ p := fun z => by rw [z, upd_same] at h; cases h
    rw [upd_ne ne] at h
    have := S.dom b h
    rw [upd_ne ne] at this
    exact this
  · rcases S.ow i b h with z | z
    · have ne : b ≠ p := fun y => by rw [y, upd_same] at z; cases z
      rw [upd_ne ne] at z
      exact .inl z
    · exact .inr z
  · by_cases z : b = p
    · subst z; exact .inr (.inl hn)
    · rw [upd_ne z] at h
      rcases S.vis b o h with y | y | y
      · exact .inl y
      · rw [upd_ne z] at y; exact .inr (.inl y)
      · exact .inr (.inr y)
end
/-- {k: e, ..}, the keys written ints or texts -/
def vDic (ks : List Key) (fs : List (M D)) : M D := bind (evd fs) fun ds ρ => if ks.Nodup ∧ ds.length = ks.length ∧ ks.length ≤ 15 then .ok (.dic ks ds) ρ else .no
def kPairs (K : PySem.W.Frag) (μ : Mu) (W : WX) : List Key → List (M D) → List (TE × TE)
  | k :: ks, f :: fs => (tC (kV k), lE K μ W f) :: kPairs K μ W ks fs
  | _, _ => []
section
variable {K : PySem.W.Frag} {μ : Mu} {W : WX} {X : Cx}
theorem pairs_go {α : Type} {σ : St} {P : α → En → Hp → Hp → Prop} : ∀ {ks : List Key} {fs : List (M D)} {ρ : En} {H G : Hp} {k : List D → M α} {Q : List (V × V) → Hp → Prop}, ks.length = fs.length → Rl K μ σ H ρ G → Post K μ W σ ρ H G (bind (evd fs) k ρ) P →
    (∀ (vs : List V) ds ρ' H' G', vs.length = ks.length → Rl K μ σ H' ρ' G' → Step σ ρ H G σ ρ' H' G' → RpA K G' vs ds → Post K μ W σ ρ' H' G' (k ds ρ') P → Q ((ks.zip vs).map fun kv => (kV kv.1, kv.2)) H') → tPairs (kPairs K μ W ks fs) σ H Q
  | [], [], ρ, H, G, k, Q, _, R, h, c => c [] [] ρ H G rfl R (.refl _ _ _ _) .nil h
  | kk :: ks, f :: fs, ρ, H, G, k, Q, hl, R, h, c => by
    have e : bind (evd (f :: fs)) k = bind f fun d => bind (evd fs) fun ds => k (d :: ds) := by
      show bind (bind f _) k = _
      rw [bind_assoc]
      congr 1
      funext d
      rw [bind_assoc]
      rfl
    rw [e] at h
    refine ⟨ρ, G, R, (Post.bind h).imp fun d ρ1 H1 G1 R1 S1 h1 v rv => ?_⟩
    refine pairs_go (by simpa using hl) R1 h1 fun vs ds ρ2 H2 G2 hn R2 S2 ra h2 => ?_
    exact c (v :: vs) (d :: ds) ρ2 H2 G2 (by simp [hn]) R2 (S1.trans S2) (.cons (rv.up S2.g) ra) h2
  | [], _ :: _, _, _, _, _, _, hl, _, _, _ => by cases hl
  | _ :: _, [], _, _, _, _, _, hl, _, _, _ => by cases hl
theorem mergeK_nodup : ∀ (more acc : List (Key × V)), ((acc ++ more).map (·.1)).Nodup → mergeK acc more = acc ++ more
  | [], acc, _ => by simp [mergeK]
  | p :: r, acc, h => by
    have hp : putK acc p.1 p.2 = acc ++ [p] := by
      have : ¬ ∃ q ∈ acc, q.1 = p.1 := fun ⟨q, hq, e⟩ => by
        rw [List.map_append, List.map_cons, List.nodup_append] at h
        exact h.2.2 q.1 (List.mem_map_of_mem hq) p.1 (by simp) e
      unfold putK
      rw [if_neg]
      simpa using this
    show mergeK (putK acc p.1 p.2) r = _
    rw [hp, mergeK_nodup r (acc ++ [p]) (by simpa using h)]
    simp
theorem v_dic {ks : List Key} {fs : List (M D)} {keys : List (Option Expr)} {values : List Expr} {pos : Pos} (h : PPs X pos keys values (kPairs K μ W ks fs)) (hlen : ks.length = fs.length := by rfl) (hall : keys.all (·.isSome) = true := by rfl) (hl : keys.length = values.length := by rfl) (h0 : keys ≠ [] := by simp)
    (h15 : keys.length ≤ 15 := by decide) (hK : X.K = K := by rfl) : PE X (.Dict keys values pos) (lE K μ W (vDic ks fs)) := by
  subst hK
  refine PE_of (pe_disp h hall hl h0 h15) fun σ H Q ⟨ρ, G, R, w⟩ p hn => ?_
  have al := Alloc.hid (u := .dK []) R.vis hn
  unfold vDic Vi.bind at w
  have go : ∀ P : List D → En → Prop, (Post X.K μ W σ ρ (upd H p (.dK [])) G (evd fs ρ) fun ds ρ' _ _ => P ds ρ') →
      (∀ (vs : List V) ds ρ' H' G', vs.length = ks.length → Rl X.K μ σ H' ρ' G' → Step σ ρ (upd H p (.dK [])) G σ ρ' H' G' → RpA X.K G' vs ds → P ds ρ' → H' p = some (.dK []) ∧ ∃ kvs : List (Key × V), (ks.zip vs).map (fun kv => (kV kv.1, kv.2)) = kvs.map (fun kv => (kV kv.1, kv.2)) ∧ kvs.length ≤ 15 ∧ Q (.ref p) (upd H' p (.dK (mergeK [] kvs)))) →
      tPairs (kPairs X.K μ W ks fs) σ (upd H p (.dK [])) fun ps H2 => H2 p = some (.dK []) ∧ ∃ kvs : List (Key × V), ps = kvs.map (fun kv => (kV kv.1, kv.2)) ∧ kvs.length ≤ 15 ∧ Q (.ref p) (upd H2 p (.dK (mergeK [] kvs))) := fun P w2 c =>
    pairs_go (k := ret) (P := fun ds ρ' _ _ => P ds ρ') hlen (R.alloc al) (by
      have e : bind (evd fs) ret ρ = evd fs ρ := by unfold Vi.bind; cases evd fs ρ <;> rfl
      rw [e]
      exact w2) fun vs ds ρ' H' G' hv R2 S2 ra h2 => c vs ds ρ' H' G' hv R2 S2 ra (h2 _ _ R2 (.refl _ _ _ _))
  cases ev : evd fs ρ with
  | no => rw [ev] at w; exact w.elim
  | ex c ns es ρ' =>
    rw [ev] at w
    exact go (fun _ _ => False) (by rw [ev]; exact exOk.shift al.step w) fun _ _ _ _ _ _ _ _ _ z => z.elim
  | ok ds ρ2 =>
    rw [ev] at w
    simp only at w
    refine go (fun ds' ρ' => ds' = ds ∧ ρ' = ρ2) (by rw [ev]; exact fun _ _ _ _ => ⟨rfl, rfl⟩) fun vs ds' ρ' H2 G2 hv R2 S2 ra z => ?_
    obtain ⟨rfl, rfl⟩ := z
    by_cases q : ks.Nodup ∧ ds'.length = ks.length ∧ ks.length ≤ 15
    · rw [if_pos q] at w
      have e1 : (ks.zip vs).map (·.1) = ks := List.map_fst_zip (by omega)
      have e2 : (ks.zip vs).map (·.2) = vs := List.map_snd_zip (by omega)
      have em : mergeK [] (ks.zip vs) = ks.zip vs := by rw [mergeK_nodup _ _ (by rw [List.nil_append, e1]; exact q.1), List.nil_append]
      obtain ⟨k1, R3, S3⟩ := R.fill (u := .dK (ks.zip vs)) hn R2 S2
      refine ⟨k1, ks.zip vs, rfl, by rw [List.length_zip]; omega, ?_⟩
      rw [em]
      refine w _ _ R3 S3 (.ref p) ?_
      have g2 : G2 p = none := by
        cases y : G2 p with
        | none => rfl
        | some o =>
          rcases S2.vis p o y with z | z | ⟨j, z⟩
          · rw [R.vis.free hn] at z; cases z
          · rw [upd_same] at z; cases z
          · exact absurd z (no_own R hn j)
      have sg : Same G2 (upd G2 p (.dK (ks.zip vs))) := fun b o h => by rw [upd_ne (ne_of_none h g2)]; exact h
      have fin := Rp.dic (K := X.K) (G := upd G2 p (.dK (ks.zip vs))) (a := p) (kvs := ks.zip vs) (ds := ds') upd_same (by rw [e2]; exact ra.up sg)
      rw [e1] at fin
      exact fin
    · rw [if_neg q] at w; exact w.elim
theorem v_dnew {pos : Pos} : PE X (.Dict [] [] pos) (lE K μ W (vDic [] [])) := by
  refine PE_of pe_dnewK fun σ H Q ⟨ρ, G, R, w⟩ p hn => ?_
  have w2 : Post K μ W σ ρ H G (.ok (.dic [] []) ρ) fun d _ H' G' => ∀ v, Rp K G' v d → Q v H' := w
  have al := Alloc.new (u := .dK []) R.vis hn
  exact Post.alloc R al w2 (.ref p) (Rp.dic (kvs := []) upd_same .nil)
end
end Vi

namespace Vi
open PySem PySem.Spec L2
def flV : D → Option V
  | .non => some .non
  | .bl b => some (.bl b)
  | .int i => some (.int i)
  | .str x => some (.str x)
  | _ => none
def flVs : List D → Option (List V)
  | [] => some []
  | d :: ds => (match flV d, flVs ds with
    | some v, some vs => some (v :: vs)
    | _, _ => none)
section
variable {K : PySem.W.Frag} {H G : Hp}
theorem flV_rp {d : D} {v x : V} (h : flV d = some v) (r : Rp K G x d) : x = v ∧ flatV v = true := by
  cases d with
  | non => cases h; cases r; exact ⟨rfl, rfl⟩
  | bl b => cases h; cases r; exact ⟨rfl, rfl⟩
  | int b => cases h; cases r; exact ⟨rfl, rfl⟩
  | str b => cases h; cases r; exact ⟨rfl, rfl⟩
  | _ => cases h
theorem flV_rb {d : D} {v x : V} (h : flV d = some v) (r : Rb K H G x d) : x = v ∧ flatV v = true := by
  rcases r with r | ⟨a, u, m, e, _, _, rfl⟩
  · exact flV_rp h r
  · cases m <;> cases h
theorem flVs_rp : ∀ {ds : List D} {vs xs : List V}, flVs ds = some vs → RpA K G xs ds → xs = vs ∧ vs.all flatV = true
  | [], vs, xs, h, r => by cases h; cases r; exact ⟨rfl, rfl⟩
  | d :: ds, vs, xs, h, r => by
    cases r with
    | cons r1 r2 =>
      unfold flVs at h
      cases e1 : flV d with
      | none => simp only [e1] at h; cases h
      | some v =>
        cases e2 : flVs ds with
        | none => simp only [e1, e2] at h; cases h
        | some ws =>
          simp only [e1, e2] at h
          cases h
          obtain ⟨rfl, f1⟩ := flV_rp e1 r1
          obtain ⟨rfl, f2⟩ := flVs_rp e2 r2
          exact ⟨rfl, by rw [List.all_cons, f1, f2]; rfl⟩
end
def inD (x y : D) : Option D := match flV x, seqD y with
  | some v, some ds => (match flVs ds with
    | some vs => some (.bl (inV v vs))
    | none => none)
  | _, _ => none
def countD (y x : D) : Option D := match flV x, y with
  | some v, .lst ds => (match flVs ds with
    | some vs => some (.int (vs.countP fun z => eqV z v : Nat))
    | none => none)
  | _, _ => none
section
variable {K : PySem.W.Frag} {μ : Mu} {W : WX} {X : Cx}
theorem o_in : SB K (rIn K false) (o2 inD) := fun H G x y d e z Q s rx ry ho q => by
  have ho : inD d e = some z := ho
  unfold inD at ho
  cases e1 : flV d with
  | none => simp only [e1] at ho; cases ho
  | some v =>
    cases e2 : seqD e with
    | none => simp only [e1, e2] at ho; cases ho
    | some ds =>
      cases e3 : flVs ds with
      | none => simp only [e1, e2, e3] at ho; cases ho
      | some vs =>
        simp only [e1, e2, e3] at ho
        cases ho
        obtain ⟨rfl, f1⟩ := flV_rb e1 rx
        have sq : ∃ p xs, y = .ref p ∧ (SqL K H p xs ∨ SqT K H p xs) ∧ RpA K G xs ds := by
          cases e with
          | lst xs => cases e2; obtain ⟨a, us, h1, h2, h3⟩ := ry.lst s; exact ⟨a, us, h1, .inl (SqL.of h2), h3⟩
          | tup xs => cases e2; obtain ⟨a, us, h1, h2, h3⟩ := ry.tup s; exact ⟨a, us, h1, .inr h2, h3⟩
          | _ => cases e2
        obtain ⟨p, xs, h1, h2, h3⟩ := sq
        obtain ⟨rfl, f2⟩ := flVs_rp e3 h3
        exact ⟨p, xs, h1, h2, f1, f2, q _ rfl⟩
def isLD : D → Bool
  | .lst _ => true
  | _ => false
def vCount (f g : M D) : M D := bind f fun y ρ => if isLD y = true then bind g (fun x => opt (countD y x)) ρ else .no
theorem countP_eqU {y : V} : ∀ {xs : List V} {us : List Value}, Vals xs us → xs.all flatV = true → us.countP (eqU y) = xs.countP fun z => eqV z y
  | _, _, .nil, _ => rfl
  | x :: xs, u :: us, .cons r t, f => by
    rw [List.all_cons, Bool.and_eq_true] at f
    rw [List.countP_cons, List.countP_cons, eqU_of r f.1, countP_eqU t f.2]
def rCntF (K : PySem.W.Frag) : V → List V → Hp → VK → Prop := fun x xs H Q => ∃ (p : Addr) (zs : List V) (y : V), x = .ref p ∧ xs = [y] ∧ SqL K H p zs ∧ flatV y = true ∧ zs.all flatV = true ∧ Q (.int (zs.countP fun z => eqV z y : Nat)) H
theorem mt_cntF : MtR X "list.count" (rCntF X.K) := by
  intro pins s σ H x xs v us Q I rx rxs h
  obtain ⟨p, zs, y, rfl, rfl, hs, fy, fz, q⟩ := h
  cases rx
  obtain ⟨u, rfl, ru⟩ := rxs.one
  obtain ⟨its, rv, ⟨⟨cls, dd, data, sl⟩, n, ho, hc, hdn, hd⟩, hlen⟩ := I.list hs
  simp only at hc hd
  subst hc hd
  refine call_meets PySem.F.slot_list_count ⟨_, ho, rfl⟩ PySem.F.entry_list_count (PySem.F.args_list_count_2 _ _)
    (SeqAt.list_countAt p its.toArray n dd sl u (eqU y)) ⟨ho, fun z hz => mem_eqAt ru fy rv fz z (by simpa using hz), ?_⟩
  have ec : its.toArray.toList.countP (eqU y) = zs.countP fun z => eqV z y := countP_eqU rv fz
  refine ⟨.int (zs.countP fun z => eqV z y : Nat), H, I.tok _, ⟨s.toks, ?_⟩, q⟩
  show Value.int ((its.toArray.toList.countP (eqU y) : Nat) : Int) s.toks = Value.int ((zs.countP fun z => eqV z y : Nat) : Int) s.toks
  rw [ec]
theorem v_count {o e : Expr} {apos cpos : Pos} {f g : M D} (ho : PE X o (lE K μ W f)) (he : PE X e (lE K μ W g)) (hK : X.K = K := by rfl)
    (hbase : attributeBase o "count" X.env (eval o X.env) = eval o X.env := by rfl)
    (hfew : ((backTo cpos (starEach (e :: []) X.env)).all (fun x => !x.1) && (backToKw cpos (keywordEach [] X.env)).all (fun x => x.1.isSome)
      && decide ((e :: []).length + ([] : List Keyword).length + (if ([] : List Keyword).isEmpty then 0 else 1) < 30)) = true := by rfl)
    (hline : (apos.endLine == cpos.line) = true := by rfl) (hs : starEach (e :: []) X.env = (false, eval e X.env) :: starEach [] X.env := by rfl) (hplain : (backTo cpos (starEach [] X.env)).any (·.1) = false := by rfl) :
    PE X (.Call (.Attribute o "count" apos) [e] [] cpos) (lE K μ W (vCount f g)) := by
  subst hK
  refine PE_of (pe_bm PySem.F.plainAttrs_list PySem.F.slot_list_count PySem.F.type_list_count mt_cntF ho (pa_cons he pa_nil hs) hbase hfew hline hs hplain) fun σ H Q ⟨ρ, G, R, w⟩ => ⟨ρ, G, R, (Post.bind w).imp fun y ρ1 H1 G1 R1 S1 h v rv => ?_⟩
  cases y with
  | lst ds =>
    have h' : Post X.K μ W σ ρ1 H1 G1 (bind g (fun x => opt (countD (.lst ds) x)) ρ1) _ := h
    cases rv with
    | lst ha hr =>
      rename_i a xs
      refine ⟨.inl ⟨rfl, xs, SqL.of (R1.vis _ _ ha)⟩, ρ1, G1, R1, (Post.bind h').imp fun x ρ2 H2 G2 R2 S2 h2 u ru => ?_⟩
      cases e1 : flV x with
      | none => simp only [countD, e1, opt] at h2; exact h2.elim
      | some v =>
        cases e2 : flVs ds with
        | none => simp only [countD, e1, e2, opt] at h2; exact h2.elim
        | some vs =>
          simp only [countD, e1, e2, opt] at h2
          obtain ⟨rfl, f1⟩ := flV_rp e1 ru
          obtain ⟨rfl, f2⟩ := flVs_rp e2 (hr.up S2.g)
          exact ⟨a, xs, u, rfl, rfl, SqL.of (R2.vis _ _ (S2.g _ _ ha)), f1, f2, Post.ret R2 h2 _ (.int _)⟩
  | _ => exact h.elim
end
end Vi

namespace Vi
open PySem PySem.Spec L2
open PySem.W (AlikeAll dataLt iter_tupleW cmpIn_gt reads_keeps alike alikeAll)
section
variable {prog : Program} {w : World} {A : Around} {E : Value → Shared → Prop} {s : Shared}
theorem max_two_data {u v : Value} {p q : PyData} {as bs : List Addr} {Q : Value → Shared → Prop} (hh : A.handled = none) (ru : Reads s.heap u p as) (rv : Reads s.heap v q bs) (ha : AlikeAll [p, q]) (hu : A.units + PyData.depthAll [p, q] + 1 < cLine)
    (h : ∀ h' tk, (∀ b o, s.heap.get? b = some o → h'.get? b = some o) → Q (if dataLt p q = true then v else u) { s with heap := h', toks := tk }) :
    wpAny (model prog w) A (call (.builtin "max") [u, v]) Q E s := by
  have hname : (toString "max" ++ toString ".loop" : String) = "max.loop" := by decide
  refine call_function_tree F.kind_max F.plain_max F.entry_max (F.args_max2 _ _) ?_
  show wpAny _ A.in1 (Builtin.Builtins.bindParams "max" ["key", "default"] 0 ⟨[], []⟩ >>= _) _ _ s
  refine wpAny_bind (wpAny_of_eq (show Builtin.Builtins.bindParams "max" ["key", "default"] 0 ⟨[], []⟩ = pure [none, none] from rfl) ?_)
  show wpAny _ A.in1 (newTuple [u, v] >>= _) _ _ s
  refine wpAny_bind (wpAny_newObj_type ?_)
  have tup : (s.heap.push { cls := .type "tuple", data := .seq #[u, v] }).IsTuple s.heap.objs.size #[u, v] := ⟨_, Heap.get?_push_size _ rfl, rfl, 0, rfl⟩
  refine wpAny_bind (iter_tupleW (A := A.in1) (s := { s with heap := s.heap.push { cls := .type "tuple", data := .seq #[u, v] } }) hh tup fun s2 e2 W hst hfp hw hkeep => ?_)
  refine wpAny_bind (wpAny_newObj_type ?_)
  have k1 : ∀ b o, s.heap.get? b = some o → (s.heap.push { cls := .type "tuple", data := .seq #[u, v] }).get? b = some o := fun b o e => Heap.get?_push_of_some _ e
  have ra : ReadsAll (s.heap.push { cls := .type "tuple", data := .seq #[u, v] }) (#[u, v] : Array Value).toList [p, q] (as ++ (bs ++ [])) := .cons (reads_keeps k1 ru) (.cons (reads_keeps k1 rv) .nil)
  have hSf : s2.heap.objs.size ∉ _ := fun hm => Nat.lt_irrefl _ (hfp _ hm)
  rw [hname]
  refine wpAny_pure ⟨plainId_quiet F.plain_max_loop _, codeAny_max_loop_firstH W _ hw _ (cmpIn_gt (s := { s with heap := s.heap.push { cls := .type "tuple", data := .seq #[u, v] } }) ra ha (by show A.units + 1 + PyData.depthAll [p, q] < cLine; omega)) s2.heap.objs.size hSf (fresh_in hkeep) _ (by show 0 < 2; decide)
    (fun b o e => Heap.get?_push_of_some _ (hkeep b o e)) (W.frame 0 s2 _ s2.toks hst (Nat.le_refl _) fun b _ o e => Heap.get?_push_of_some _ e) (Heap.get?_push_size _ rfl) fun z s' hP hm => ?_⟩
  have hsz : (s.heap.push { cls := .type "tuple", data := .seq #[u, v] }).objs.size = s.heap.objs.size + 1 := Heap.size_push ..
  have fin : ∃ h' tk, s' = { s with heap := h', toks := tk } ∧ ∀ b o, s.heap.get? b = some o → h'.get? b = some o := by
    obtain ⟨h', tk, e, kk⟩ := PySem.W.moved_old (s := { s with heap := s.heap.push { cls := .type "tuple", data := .seq #[u, v] } }) e2 rfl (Moved.drop_new (tk := s2.toks) hm (Nat.le_refl _))
    exact ⟨h', tk, e, fun b o eb => kk b o (k1 b o eb)⟩
  obtain ⟨h', tk, rfl, kk⟩ := fin
  have ez : z = if dataLt p q = true then v else u := by
    have hP' : (#[u, v] : Array Value)[argBest (fun i j => dataLt ([p, q].getD j .none) ([p, q].getD i .none)) 1]? = some z := hP
    by_cases hb : dataLt p q = true
    · have e : argBest (fun i j => dataLt ([p, q].getD j .none) ([p, q].getD i .none)) 1 = 1 := if_pos hb
      rw [e] at hP'
      rw [if_pos hb]
      exact (Option.some.inj hP').symm
    · have e : argBest (fun i j => dataLt ([p, q].getD j .none) ([p, q].getD i .none)) 1 = 0 := if_neg hb
      rw [e] at hP'
      rw [if_neg hb]
      exact (Option.some.inj hP').symm
  rw [ez]
  exact h h' tk kk
end
/-- a tuple of ints -/
def intsL : List PyData → Option (List Int)
  | [] => some []
  | .int i :: ps => (match intsL ps with
    | some is => some (i :: is)
    | none => none)
  | _ => none
def intsP : PyData → Option (List Int)
  | .tuple ps => intsL ps
  | _ => none
def maxTD (d e : D) : Option D := match pyD d, pyD e with
  | some p, some q => (match intsP p, intsP q with
    | some xs, some ys => some (if xs < ys then e else d)
    | _, _ => none)
  | _, _ => none
theorem intsL_eq : ∀ {ps : List PyData} {xs : List Int}, intsL ps = some xs → ps = xs.map .int
  | [], xs, h => by cases h; rfl
  | .int i :: ps, xs, h => by
    unfold intsL at h
    cases e : intsL ps with
    | none => simp only [e] at h; cases h
    | some is => simp only [e] at h; cases h; rw [List.map_cons, ← intsL_eq e]
  | .none :: _, _, h => by cases h
  | .bool _ :: _, _, h => by cases h
  | .str _ :: _, _, h => by cases h
  | .list _ :: _, _, h => by cases h
  | .tuple _ :: _, _, h => by cases h
  | .dict _ :: _, _, h => by cases h
theorem intsP_eq {p : PyData} {xs : List Int} (h : intsP p = some xs) : p = .tuple (xs.map .int) := by
  cases p with
  | tuple ps => rw [intsL_eq (show intsL ps = some xs from h)]
  | _ => cases h
theorem alike_ints : ∀ xs ys : List Int, alikeAll (xs.map PyData.int) (ys.map PyData.int) = true
  | [], ys => by simp [alikeAll]
  | x :: xs, [] => by simp [alikeAll]
  | x :: xs, y :: ys => by
    rw [List.map_cons, List.map_cons, alikeAll, alike_ints xs ys]
    simp [alike]
theorem depth_ints : ∀ xs : List Int, PyData.depthAll (xs.map PyData.int) = 0
  | [] => by simp [PyData.depthAll]
  | x :: xs => by rw [List.map_cons, PyData.depthAll, depth_ints xs]; simp [PyData.depth]
section
variable {K : PySem.W.Frag} {X : Cx}
/-- max of two tuples of ints -/
def rMaxT (K : PySem.W.Frag) : List V → Hp → VK → Prop := fun vs H Q => ∃ (x y : V) (xs ys : List Int), vs = [x, y] ∧ RdT K H x (.tuple (xs.map .int)) ∧ RdT K H y (.tuple (ys.map .int)) ∧ Q (if xs < ys then y else x) H
theorem call_maxT {k : Nat} (hr : RoomG k X.A) (hc : X.calm = true) : CallR X (.builtin "max") (rMaxT X.K) := by
  intro pins s σ H vs us Q I r h
  obtain ⟨x, y, xs, ys, rfl, T1, T2, q⟩ := h
  obtain ⟨u, v, rfl, ru, rv⟩ := vals2 r
  obtain ⟨as, r1, _, _⟩ := T1.at_ X pins σ s u rfl I ru
  obtain ⟨bs, r2, _, _⟩ := T2.at_ X pins σ s v rfl I rv
  have al : ∀ a b : List Int, alike (PyData.tuple (a.map PyData.int)) (PyData.tuple (b.map PyData.int)) = true := fun a b => by rw [alike]; exact alike_ints a b
  have hu := hr.r.un
  refine max_two_data (I.ok.hd hc) r1 r2 ⟨fun a ha b hb => ?_, fun a ha => ?_⟩ ?_ fun h' tk kk => ?_
  · simp only [List.mem_cons, List.mem_nil_iff, or_false] at ha hb
    rcases ha with rfl | rfl <;> rcases hb with rfl | rfl <;> exact al _ _
  · simp only [List.mem_cons, List.mem_nil_iff, or_false] at ha
    rcases ha with rfl | rfl <;> simp
  · have e : PyData.depthAll [PyData.tuple (xs.map .int), PyData.tuple (ys.map .int)] = 1 := by simp [PyData.depthAll, PyData.depth, depth_ints]
    rw [e]
    omega
  · have e : dataLt (.tuple (xs.map .int)) (.tuple (ys.map .int)) = decide (xs < ys) := by
      rw [PySem.W.dataLt_tuple]
      exact PySem.W.dataLt_ints xs ys
    rw [e]
    refine ⟨_, H, I.kept (t' := tk) kk, ?_, q⟩
    by_cases hb : xs < ys
    · rw [if_pos hb, if_pos (decide_eq_true hb)]; exact rv
    · rw [if_neg hb, if_neg (by simpa using hb)]; exact ru
theorem o_maxT : SA K (rMaxT K) (o2 maxTD) := fun H G vs ds z Q s r e c => by
  obtain ⟨x, y, d, d', rfl, rfl, e1, r1, r2⟩ := r.inv2 e
  unfold maxTD at e1
  cases q1 : pyD d with
  | none => simp only [q1] at e1; cases e1
  | some p =>
    cases q2 : pyD d' with
    | none => simp only [q1, q2] at e1; cases e1
    | some q =>
      cases q3 : intsP p with
      | none => simp only [q1, q2, q3] at e1; cases e1
      | some xs =>
        cases q4 : intsP q with
        | none => simp only [q1, q2, q3, q4] at e1; cases e1
        | some ys =>
          simp only [q1, q2, q3, q4] at e1
          have nd : ∀ {d : D} {p : PyData}, pyD d = some p → topD d = some p := fun {d p} h => by
            cases d <;> first | exact h | (unfold pyD at h; cases h)
          have tp : ∀ {d : D} {x : V} {xs : List Int}, pyD d = some (.tuple (xs.map .int)) → Rb K H G x d → Rp K G x d := fun {d x xs} h r => by
            rcases r with r | ⟨a, u, m, _, _, _, rfl⟩
            · exact r
            · cases m with
              | lst ds =>
                have h' : pyD (.lst ds) = some _ := h
                unfold pyD at h'
                cases y : pyA ds with
                | none => simp only [y] at h'; cases h'
                | some ps => simp only [y] at h'; cases h'
              | dic _ _ => have h' : pyD (.dic _ _) = some _ := h; unfold pyD at h'; cases h'
              | ins _ _ _ => have h' : pyD (.ins _ _ _) = some _ := h; unfold pyD at h'; cases h'
          have f1 := intsP_eq q3
          have f2 := intsP_eq q4
          subst f1 f2
          refine ⟨x, y, xs, ys, rfl, rdT_of s r1 (nd q1), rdT_of s r2 (nd q2), ?_⟩
          by_cases hb : xs < ys
          · rw [if_pos hb] at e1 ⊢
            cases e1
            exact c _ _ _ (.refl s) (tp q2 r2)
          · rw [if_neg hb] at e1 ⊢
            cases e1
            exact c _ _ _ (.refl s) (tp q1 r1)
end
end Vi

namespace Vi
open PySem PySem.Spec L2

def putN (f : Str) (d : D) : List Str → List D → List Str × List D
  | n :: ns, e :: ds => if n = f then (n :: ns, d :: ds) else (n :: (putN f d ns ds).1, e :: (putN f d ns ds).2)
  | _, _ => ([f], [d])
theorem putN_ok {K : PySem.W.Frag} {G : Hp} {f : Str} {d : D} {v : V} (r : Rp K G v d) : ∀ {fs : List (Str × V)} {ds : List D}, RpA K G (fs.map (·.2)) ds → (putF f v fs).map (·.1) = (putN f d (fs.map (·.1)) ds).1 ∧ RpA K G ((putF f v fs).map (·.2)) (putN f d (fs.map (·.1)) ds).2
  | [], ds, h => by
    cases h
    exact ⟨rfl, .one r⟩
  | (g, x) :: fs, ds, h => by
    cases h with
    | @cons _ _ e es h1 h2 =>
      by_cases q : g = f
      · have e1 : putF f v ((g, x) :: fs) = (g, v) :: fs := if_pos q
        have e2 : putN f d (((g, x) :: fs).map (·.1)) (e :: es) = (g :: fs.map (·.1), d :: es) := if_pos q
        rw [e1, e2]
        exact ⟨rfl, .cons r h2⟩
      · have e1 : putF f v ((g, x) :: fs) = (g, x) :: putF f v fs := if_neg q
        have e2 : putN f d (((g, x) :: fs).map (·.1)) (e :: es) = (g :: (putN f d (fs.map (·.1)) es).1, e :: (putN f d (fs.map (·.1)) es).2) := if_neg q
        rw [e1, e2]
        obtain ⟨i1, i2⟩ := putN_ok r h2
        exact ⟨by rw [List.map_cons, i1], .cons h1 i2⟩
/-- what a class must say, that the field f of its instances may be read and stored -/
structure FldC (K : PySem.W.Frag) (c f : Str) : Prop where
  cl : Cls K (He.ga K c)
  no : NoAttr K (He.ga K c) f
def fldD (cs : List Str) (f : Str) : D → Option D
  | .ins c ns ds => if c ∈ cs then lkD f ns ds else none
  | _ => none
def vFld (cs : List Str) (i : Nat) (f : Str) (fv : M D) : VS := sb fv fun d ρ0 => match owS ρ0 i with
  | some (.ins c ns ds) => if c ∈ cs ∧ ns.length ≤ 500 then .nx (putM ρ0 i (.ins c (putN f d ns ds).1 (putN f d ns ds).2)) else .no
  | _ => .no
section
variable {K : PySem.W.Frag} {μ : Mu} {W : WX} {X : Cx} {cs : List Str} {f : Str} {a : Ar} {e o value : Expr} {pos pos' : Pos} {i : Nat} {fv : M D}
def rFld (K : PySem.W.Frag) (f : Str) : V → Hp → VK → Prop := fun x H Q => ∃ a C dx fs v, x = .ref a ∧ H a = some (.ins C dx fs) ∧ Cls K C ∧ NoAttr K C f ∧ fs.lookup f = some v ∧ Q v H
theorem o_fld (hC : ∀ c ∈ cs, FldC K c f) : S1 K (rFld K f) (o1 (fldD cs f)) := fun H G x d z Q s r e c => by
  have e : fldD cs f d = some z := e
  cases d with
  | ins k ns ds =>
    have e' : (if k ∈ cs then lkD f ns ds else none) = some z := e
    by_cases q : k ∈ cs
    · rw [if_pos q] at e'
      obtain ⟨a, dx, fs, rfl, h1, h2, h3⟩ := r.ins s
      subst h2
      obtain ⟨v, hl, rv⟩ := lkD_at h3 e'
      exact ⟨a, _, dx, fs, v, rfl, h1, (hC k q).cl, (hC k q).no, hl, c v H G (.refl s) rv⟩
    · rw [if_neg q] at e'; cases e'
  | _ => cases e
theorem v_fld (hC : ∀ c ∈ cs, FldC X.K c f) (ha : PE X e (rAr X.K μ W a)) (hb : attributeBase e f X.env (eval e X.env) = eval e X.env := by rfl) (hK : X.K = K := by rfl) : PE X (.Attribute e f pos) (lE K μ W (opv [a] (o1 (fldD cs f)))) := by
  subst hK
  exact PE_of (pe_fld ha hb) fun σ H Q w => go1 (o_fld hC) w
theorem s_fld (hC : ∀ c ∈ cs, FldC X.K c f) (ho : PE X o (tVar i)) (hv : PE X value (lE K μ W fv)) (hs : swapsWith value (some (.Attribute o f pos')) pos.line X.env = pure false := by rfl) (hK : X.K = K := by rfl) : PS X (.Assign [.Attribute o f pos'] value pos) (lS K μ W (vFld cs i f fv)) := by
  subst hK
  refine PS_of (ps_fld ho hv hs) fun Dn σ H ⟨ρ, G, R, w⟩ => ⟨ρ, G, R, (PostS.bind w).imp fun d ρ0 H0 G0 R0 S0 h v r => ?_⟩
  cases e1 : owS ρ0 i with
  | none => simp only [e1] at h; exact h.elim
  | some m =>
    cases m with
    | ins c ns ds =>
      simp only [e1] at h
      by_cases q : c ∈ cs ∧ ns.length ≤ 500
      · rw [if_pos q] at h
        obtain ⟨s, e2, e3, e4⟩ := owS_at e1
        obtain ⟨a, u, l1, l2, l3, ⟨dx, fs, rfl, rfl, l4⟩, l5⟩ := R0.atOw e2 e3
        rw [e4] at h
        obtain ⟨p1, p2⟩ := putN_ok (f := f) r l4
        obtain ⟨R2, S2⟩ := R0.write (m' := .ins c (putN f d (fs.map (·.1)) ds).1 (putN f d (fs.map (·.1)) ds).2) e2 e3 l5 l3 ⟨dx, putF f v fs, rfl, p1, p2⟩
        refine ⟨.ref a, l1, a, _, dx, fs, rfl, l2, (hC c q.1).cl, (hC c q.1).no, ?_, h _ _ _ R2 S2⟩
        have := q.2
        rw [List.length_map] at this
        omega
      · rw [if_neg q] at h; exact h.elim
    | lst _ => simp only [e1] at h; exact h.elim
    | dic _ _ => simp only [e1] at h; exact h.elim
end
end Vi

namespace Vi
open PySem PySem.Spec L2
theorem RoomG.make {k : Nat} {A : Around} (r : RoomG (k + 1) A) (C : Addr) (us : List Value) (kw : List (Str × Value)) : RoomG k (A.under (.builtin "type.__call__" ⟨.ref C :: us, kw⟩)) :=
  ⟨r.r.make C us kw, by
    have h := r.g
    first
      | exact h
      | (simpa [Around.under, Code.guards, Code.isGuard, pushGuards] using h)⟩
def tMakeG (C : Addr) (n m : Nat) (sp : Sp) (dvs : List V) (E : St → XK) (t tk : TA) : TE := fun σ H Q => t σ H fun vs H1 => tk σ H1 fun zs H2 => vs.length = n ∧ zs.length = m ∧ ∀ x dx, H2 x = none → H2 dx = none → dx ≠ x →
  sp (.ref x :: (vs ++ (dvs ++ zs))) (upd (upd H2 dx (.own x)) x (.ins C dx [])) (fun v H3 => v = .non ∧ Q (.ref x) H3) (E σ)
section
variable {X : Cx} {k n : Nat} {f C : Addr} {fd : FuncData} {ps ks : List Str} {sp : Sp} {E : St → XK} {x : Str} {p pos : Pos} {e : Expr} {es : List Expr} {kws : List Keyword} {t tk : TA} {dvs : List V} {mv : List Value}
abbrev KBm (K : PySem.W.Frag) (fd : FuncData) (ps : List Str) (n : Nat) (ks : List Str) (mv : List Value) (dvs : List V) : Prop := KBn K fd ps (n + 1) ks (fun us ws => us ++ (mv ++ ws)) (fun vs zs => vs ++ (dvs ++ zs))
theorem pe_makeG (M : Mk X.K C f) (F : FnG X.prog X.w X.K X.mg X.base (L2.CX X.prog X.w) k f fd ps sp) (hr : RoomG (k + 1) X.A) (hg : Gl X x) (hm : X.mg x = some (.ref C)) (hb : KBm X.K fd ps n ks mv dvs) (hx : ∀ σ, PassesAt (L2.CX X.prog X.w) X σ (E σ)) (ha : PA X (e :: es) t) (hkw : PK X kws tk)
    (hall : (backToKw pos (keywordEach kws X.env)).all (·.1.isSome) = true := by rfl) (hks : (backToKw pos (keywordEach kws X.env)).filterMap (·.1) = ks := by rfl) (hdb : (x == ("__debug__" : Str)) = false := by decide)
    (he : starEach (e :: es) X.env = (false, eval e X.env) :: starEach es X.env := by rfl) (hpl : ((backTo pos (starEach (e :: es) X.env)).any (·.1) || (backToKw pos (keywordEach kws X.env)).any (·.1.isNone)) = false := by rfl) :
    PE X (.Call (.Name x p) (e :: es) kws pos) (tMakeG C n ks.length sp dvs E t tk) := by
  refine ⟨fun pins s σ H Q I h => wpAny_Call_Name_kw (ld_glob I hg hm ?_ hdb)⟩
  refine PySem.W.callWith_KW (h₀ := X.base) I.ok.mod.kin M.kp hall (thn (ha.run pos pins s σ H _ I h) fun us s1 ⟨vs, H1, I1, r, q⟩ => ?_) hpl he
  refine thn (hkw.run pos pins s1 σ H1 _ I1 q) fun ws s2 ⟨zs, H2, I2, rz, l1, l2, q2⟩ => ⟨I2.kIn, ?_⟩
  rw [hks]
  have hq := q2 (s2.heap.objs.size + 1) s2.heap.objs.size (I2.hok.fresh (Nat.le_succ _)) (I2.hok.fresh (Nat.le_refl _)) (Nat.ne_of_lt (Nat.lt_succ_self _))
  have J := Inv.made (C := C) I2
  have rv2 : Vals (V.ref (s2.heap.objs.size + 1) :: vs) (Value.ref (s2.heap.objs.size + 1) :: us) := .cons rfl r
  have r2 := hb.rel rv2 rz
  have n1 : (Value.ref (s2.heap.objs.size + 1) :: us).length = n + 1 := by rw [List.length_cons, ← r.length, l1]
  refine wpAny_call (make_map (f := f) I2.kIn M.makes M.init (beq_iff_eq.mp M.fn) (codeAny_mono (F.run _ X.stack _ _ ⟨Value.ref (s2.heap.objs.size + 1) :: us, ks.zip ws⟩ _ _ _ (E σ) (hr.make C us (ks.zip ws))
    (J.env0.make C us (ks.zip ws)) (hb.to _ (Value.ref (s2.heap.objs.size + 1) :: us) ws J.kIn n1 (rz.length.symm.trans l2)) r2 hq) fun o s' hq' => ?_))
  cases o with
  | error er => exact hx σ pins _ _ er s' J hq'
  | ok fl =>
    cases fl with
    | ret u =>
      obtain ⟨v, H', J2, rv, ev, q3⟩ := J.after hq'
      subst ev
      exact ⟨rv, ⟨V.ref (s2.heap.objs.size + 1), H', J2, rfl, q3⟩⟩
    | next => exact False.elim hq'
    | brk => exact False.elim hq'
    | cont => exact False.elim hq'
end
/-- C(e, .., k = e, ..): fs the values by place, gs those by name, dv the defaults between -/
def vMake (c : Str) (F : FN) (fs gs : List (M D)) (dv : List D) : M D := bind (evd fs) fun ds => bind (evd gs) fun zs ρ => match F (.mu (.ins c [] []) :: (ds ++ (dv ++ zs)).map .dat) with
  | .ok .non (.mu m' :: _) => .ok m'.toD ρ
  | .ex c' ns es _ => .ex c' ns es ρ
  | _ => .no
structure MkC (P : Program) (w : World) (K : PySem.W.Frag) (mg : Str → Option Value) (base : Heap) (k n : Nat) (c : Str) (ks : List Str) (dv : List D) (F : FN) : Prop where
  ex : ∃ (f : Addr) (fd : FuncData) (ps : List Str) (mv : List Value) (dvs : List V), Mk K (He.ga K c) f ∧ FnG P w K mg base (L2.CX P w) k f fd ps (spF K (n + 1 + dv.length + ks.length) F) ∧ KBm K fd ps n ks mv dvs ∧ ∀ G, RpA K G dvs dv
  gC : mg c = some (.ref (He.ga K c))
def rKs (K : PySem.W.Frag) (μ : Mu) (W : WX) (gs : List (M D)) : TA := rDs K μ W gs
section
variable {K : PySem.W.Frag} {μ : Mu} {W : WX} {X : Cx} {σ : St} {H : Hp} {Q : VK} {c : Str} {F : FN} {fs gs : List (M D)} {dv : List D} {dvs : List V} {n m : Nat}
theorem go_make (hn : fs.length = n) (hm : gs.length = m) (hd : ∀ G, RpA K G dvs dv) (w : lE K μ W (vMake c F fs gs dv) σ H Q) : tMakeG (He.ga K c) n m (spF K (n + 1 + dv.length + m) F) dvs (WE W) (rDs K μ W fs) (rDs K μ W gs) σ H Q := by
  obtain ⟨ρ, G, R, w⟩ := w
  refine evd_go' R w fun vs ds ρ1 H1 G1 hl R1 S1 r1 w1 => evd_go' R1 w1 fun zs es ρ2 H2 G2 hl2 R2 S2 r2 w2 => ⟨hl.trans hn, hl2.trans hm, fun x dx hx hdx hne => ?_⟩
  have ra : RpA K G2 (vs ++ (dvs ++ zs)) (ds ++ (dv ++ es)) := (r1.up S2.g).append ((hd G2).append r2)
  have hxdx : x ≠ dx := fun z => hne z.symm
  have gx : G2 x = none := R2.vis.free hx
  have at0 : upd (upd H2 dx (.own x)) x (.ins (He.ga K c) dx []) x = some (.ins (He.ga K c) dx []) := upd_same
  have up : ∀ b o, H2 b = some o → upd (upd H2 dx (.own x)) x (.ins (He.ga K c) dx []) b = some o := fun b o h => by
    rw [upd_ne (ne_of_none h hx), upd_ne (ne_of_none h hdx)]; exact h
  have dn : ∀ b, upd (upd H2 dx (.own x)) x (.ins (He.ga K c) dx []) b = none → H2 b = none := fun b h => by
    cases q : H2 b with
    | none => rfl
    | some o => rw [up b o q] at h; cases h
  have R3 := Rl.args (H := upd (upd H2 dx (.own x)) x (.ins (He.ga K c) dx [])) ⟨x, x, .none, none⟩ ra fun b o h => up b o (R2.vis b o h)
  have z0 : ∀ j b, ownAt ((V.ref x :: (vs ++ (dvs ++ zs))).map some) (.mu (.ins c [] []) :: (ds ++ (dv ++ es)).map .dat) j b → j = 0 ∧ b = x := fun j b q => by
    cases j with
    | zero => have := q.2; cases this; exact ⟨rfl, rfl⟩
    | succ j => exact absurd (show ownAt ((vs ++ (dvs ++ zs)).map some) ((ds ++ (dv ++ es)).map Sl.dat) j b from q) dat_no
  have args : Rl K ⟨x, x, .none, none⟩ ((V.ref x :: (vs ++ (dvs ++ zs))).map some) (upd (upd H2 dx (.own x)) x (.ins (He.ga K c) dx [])) (.mu (.ins c [] []) :: (ds ++ (dv ++ es)).map .dat) G2 := by
    refine ⟨congrArg (· + 1) R3.len, fun j t q => ?_, R3.vis, fun j k b h1 h2 => by rw [(z0 j b h1).1, (z0 k b h2).1]⟩
    cases j with
    | zero => cases q; exact ⟨_, rfl, _, rfl, at0, gx, dx, [], rfl, rfl, .nil⟩
    | succ j => exact R3.slot j t q
  have len : (Sl.mu (.ins c [] []) :: (ds ++ (dv ++ es)).map Sl.dat).length = n + 1 + dv.length + m := by
    have e1 := r1.len
    have e2 := r2.len
    simp only [List.length_cons, List.length_map, List.length_append]
    omega
  refine ⟨_, G2, _, args, argOk_mu _ _, len, ?_⟩
  have al : ∀ (as : En) (H' G' : Hp), ResOk K ⟨x, x, .none, none⟩ (V.ref x :: (vs ++ (dvs ++ zs))) (.mu (.ins c [] []) :: (ds ++ (dv ++ es)).map .dat) (upd (upd H2 dx (.own x)) x (.ins (He.ga K c) dx [])) G2 as H' G' → ∀ G'', Same G' G'' → Same G'' H' → (∀ b o, G'' b = some o → G' b = some o ∨ b = x) → Alloc H2 G2 H' G'' := fun as H' G' B G'' s1 s2 s3 => by
    refine ⟨fun b o h => B.2.keep b o (up b o h) fun i q => ?_, B.2.g.trans s1, s2, fun b o h => ?_⟩
    · have := (z0 i b q).2
      rw [this, hx] at h
      cases h
    · rcases s3 b o h with h | rfl
      · rcases B.2.vis b o h with y | y | ⟨j, y⟩
        · exact .inl y
        · exact .inr (dn b y)
        · rw [(z0 j b y).2]; exact .inr hx
      · exact .inr hx
  cases ef : F (.mu (.ins c [] []) :: (ds ++ (dv ++ es)).map .dat) with
  | no => simp only [ef] at w2; exact w2.elim
  | ex c' ns es' as =>
    simp only [ef] at w2
    exact fun dd fl H' G' B a b d => w2 σ dd fl H' G' (R2.alloc (al as H' G' B G' (.refl _) B.1.vis fun b o h => .inl h)) (al as H' G' B G' (.refl _) B.1.vis fun b o h => .inl h).step a b d
  | ok d as =>
    simp only [ef] at w2
    cases d with
    | non =>
      cases as with
      | nil => exact w2.elim
      | cons t rest =>
        cases t with
        | mu m' =>
          refine fun v H' G' B rv => ⟨by cases rv; rfl, ?_⟩
          obtain ⟨o, l1, u', l2, l3, l4, l5⟩ := B.1.slot 0 _ rfl
          have sg : Same G' (upd G' x u') := fun b o h => by rw [upd_ne (ne_of_none h l4)]; exact h
          have A := al _ H' G' B (upd G' x u') sg (fun b o h => by
            by_cases q : b = x
            · subst q; rw [upd_same] at h; rw [← h]; exact l3
            · rw [upd_ne q] at h; exact B.1.vis b o h) fun b o h => by
            by_cases q : b = x
            · exact .inr q
            · rw [upd_ne q] at h; exact .inl h
          exact Post.alloc R2 A w2 (.ref x) ((l5.up sg).frz upd_same)
        | _ => exact w2.elim
    | _ => exact w2.elim
variable {k : Nat} {ks : List Str} {p pos : Pos} {e : Expr} {es : List Expr} {kws : List Keyword}
theorem k_nil : PK X [] (rDs K μ W []) := pk_nil
theorem v_make {j : Nat} (h : MkC X.prog X.w X.K X.mg X.base j n c ks dv F) (hr : RoomG k X.A) (hk : j + 1 ≤ k) (hg : Gl X c) (tk : Takes X W) (ha : PA X (e :: es) (rDs K μ W fs)) (hkw : PK X kws (rDs K μ W gs)) (hn : fs.length = n := by rfl) (hm : gs.length = ks.length := by rfl) (hK : X.K = K := by rfl)
    (hall : (backToKw pos (keywordEach kws X.env)).all (·.1.isSome) = true := by rfl) (hks : (backToKw pos (keywordEach kws X.env)).filterMap (·.1) = ks := by rfl) (hdb : (c == ("__debug__" : Str)) = false := by decide)
    (he : starEach (e :: es) X.env = (false, eval e X.env) :: starEach es X.env := by rfl) (hpl : ((backTo pos (starEach (e :: es) X.env)).any (·.1) || (backToKw pos (keywordEach kws X.env)).any (·.1.isNone)) = false := by rfl) :
    PE X (.Call (.Name c p) (e :: es) kws pos) (lE K μ W (vMake c F fs gs dv)) := by
  subst hK
  obtain ⟨f, fd, ps, mv, dvs, M, Fn, hb, hd⟩ := h.ex
  exact PE_of (pe_makeG M Fn (hr.mono hk) hg h.gC hb (fun σ => passAt tk σ) ha hkw hall hks hdb he hpl) fun σ H Q w => go_make hn hm hd w
end
end Vi

namespace Vi
open PySem PySem.Spec L2
def vNo : VS := fun _ => .no
theorem s_no {K : PySem.W.Frag} {μ : Mu} {W : WX} {X : Cx} {body : List Stmt} : PSs X body (lS K μ W vNo) := ⟨fun _ _ _ _ _ _ ⟨_, _, _, w⟩ => w.elim⟩
section
variable {P : Program} {w : World} {K : PySem.W.Frag} {mg : Str → Option Value} {base : Heap} {c qual : Str} {params : Arguments} {body : List Stmt} {scope : Scope} {kws : List (Str × V)} {k n n1 : Nat} {N ps ks : List Str} {b : VS} {dv : List D}
theorem mkC_mk (M : ∃ f, Mk K (He.ga K c) f ∧ ∃ fd, FunD K "__init__" qual params body scope [] kws f fd) (gC : mg c = some (.ref (He.ga K c))) (hk : kws ≠ []) (ms : List (Str × V)) (hms : ∀ q ∈ ms, q ∈ kws) (hdv : ∀ G, RpA K G (ms.map (·.2)) dv) (hc : n + 1 + dv.length + ks.length = n1)
    (S : FnScope N ps scope) (hn : n1 = ps.length) (hN : n1 ≤ N.length)
    (hb : ∀ (D : Addr) (doc pm : Value) (an : Option Addr) (cdv ct : Value) (us mv ws : List Value), us.length = n + 1 → mv.length = ms.length → ws.length = ks.length →
      KwChain D ((ms.map (·.1)).zip mv) (bindArgs (PySem.W.fnOf "__init__" qual params body scope .none (.ref D) doc pm an cdv ct) ⟨us, ks.zip ws⟩) (ps.zip (us ++ (mv ++ ws))))
    (h : ∀ (f : Addr) (cdv : Value) (A : Around) (outer : List Env) (s : Shared) (H : Hp) (E : XK) (μ : Mu), RoomG k (A.deeper (PyProof.Rows.envOfC qual scope s.heap.objs.size f cdv)) →
      Takes (cxOf (L2.CX P w) P w K mg base N qual scope f cdv A outer s H E) (fun cls d _ H => E cls d H) → (∀ E', PassesOwn (model P w) (A.deeper (PyProof.Rows.envOfC qual scope s.heap.objs.size f cdv)) (PyProof.Rows.envOfC qual scope s.heap.objs.size f cdv) (cxOf (L2.CX P w) P w K mg base N qual scope f cdv A outer s H E').xe) →
      PSs (cxOf (L2.CX P w) P w K mg base N qual scope f cdv A outer s H E) body (lS K μ (fun cls d _ H => E cls d H) b)) : MkC P w K mg base (k + 1) n c ks dv (runF n1 N.length b) := by
  obtain ⟨f, M, fd, F⟩ := M
  obtain ⟨mv, kb⟩ := F.kbinds0 (n + 1) ks ms (fun us mv ws => us ++ (mv ++ ws)) hk hms (fun r1 r2 r3 => r1.append (r2.append r3)) hb
  refine ⟨⟨f, fd, ps, mv, ms.map (·.2), M, ?_, kb, hdv⟩, gC⟩
  rw [hc]
  refine fnG_of F S (spF_len hn) (fun cdv A outer s H vs Q E hr q => ?_)
  obtain ⟨μ, q⟩ := body_ok hN q
  exact ⟨_, h _ cdv A outer s H E μ hr (takes_of rfl rfl rfl rfl) (fun E' => passes_of rfl), q⟩
end
end Vi

namespace Vi
open PySem PySem.Spec L2 PySem.HandSPX
open PySem.W (ksFn)

abbrev IniW : Type := Option (Str × Str × Arguments × FuncBody × Scope × Addr × List Str × Addr)
def iAt (K : PySem.W.Frag) (c : Str) : Addr := He.ma K (He.ga K c) "__init__"
def iniW (K : PySem.W.Frag) (c : Str) : IniW := match K.lookup (iAt K c) with
  | some ⟨_, _, .func fd, _⟩ => some (fd.name, fd.qualname, fd.params, fd.body, fd.scope, fd.globals, fd.closure.map (·.1), fd.builtins)
  | _ => none
structure IniD where
  c : Str
  fld : Str
  qual : Str
  params : Arguments
  body : List Stmt
  scope : Scope
def IniD.val (d : IniD) : IniW := some ("__init__", d.qual, d.params, .stmts d.body, d.scope, mainGlobals, ["__class__"], builtinsNs)
def fileB (file : Str) : Option Value → Bool
  | some (.str f _) => decide (file = f)
  | _ => false
def slotB : List (Option Value) → Bool
  | [_, _, _, _, some (.builtin b), _] => decide (b = "ValueError.__new__")
  | _ => false
theorem slot_ok {l : List (Option Value)} (h : slotB l = true) : ∃ k0 k1 k2 k3 k5, l = [k0, k1, k2, k3, some (.builtin "ValueError.__new__"), k5] := by
  unfold slotB at h
  split at h
  · exact ⟨_, _, _, _, _, by rw [of_decide_eq_true h]⟩
  · cases h
def codeB (K : PySem.W.Frag) (file : Str) (q : Str) : Value → Bool
  | .ref cda => PySem.W.codeIn K (.ref cda) q && (match K.lookup cda with
    | some ⟨_, _, .fields vs, _⟩ => fileB file vs[2]?
    | _ => false)
  | _ => false
def cellB (K : PySem.W.Frag) (C : Addr) : List (Str × Addr) → Bool
  | [(_, cc)] => (match K.lookup cc with
    | some ⟨_, _, .cell (some (.ref D)), _⟩ => decide (D = C)
    | _ => false)
  | _ => false
def isNone : Value → Bool
  | .none => true
  | _ => false
def fnB (K : PySem.W.Frag) (file : Str) (d : IniD) : Bool := match K.lookup (iAt K d.c) with
  | some ⟨_, _, .func fd, _⟩ => isNone fd.defaults && (isNone fd.kwdefaults && (codeB K file d.qual fd.code && cellB K (He.ga K d.c) fd.closure))
  | _ => false
def xclsB (K : PySem.W.Frag) (C : Addr) : Bool := match K.lookup C with
  | some ⟨.type t, _, .cls cd, sl⟩ => decide (t = "type") && ((match cd.mro with
      | .ref C' :: bm => decide (C' = C) && (refsVE bm && decide (PySem.W.alongIn K "__init__" bm = some (some (.builtin "ValueError.__init__"))))
      | _ => false) && (cd.hasDict && (!cd.hasDel && slotB sl.toList)))
  | _ => false
def iniChk (K : PySem.W.Frag) (file : Str) (d : IniD) : Bool :=
  fnB K file d && (xclsB K (He.ga K d.c) && (decide (PySem.W.findIn K (.ref (He.ga K d.c)) "__setattr__" = some (some (.builtin "object.__setattr__"))) && (decide (PySem.W.findIn K (.ref (He.ga K d.c)) d.fld = some none) &&
    (decide (PySem.W.subIn K (.ref (He.ga K d.c)) (.type "ValueError") = some true) && (decide (PySem.W.nsIn K cStatics "thirdparty.any" = some none) && (decide (PySem.W.findIn K (.ref (He.ga K d.c)) "__init__" = some (some (.ref (iAt K d.c)))) &&
    (decide (PySem.W.typeIn K (.ref (iAt K d.c)) = some (.type "function")) && (PySem.W.keepIn K (.ref (He.ga K d.c)) && (decide (PySem.W.subIn K (.ref (He.ga K d.c)) (.type "BaseException") = some true) && decide (PySem.W.typeIn K (.ref (He.ga K d.c)) = some (.type "type")))))))))))
theorem isNone_eq {v : Value} (h : isNone v = true) : v = .none := by
  cases v <;> first | rfl | cases h
section
variable {P : Program} {K : PySem.W.Frag} {d : IniD} {h : Heap} {mg : Str → Option Value}
theorem xcls_ok {C : Addr} (h : xclsB K C = true) : ∃ nm q N bs bm sn sub ab col dd k0 k1 k2 k3 k5, K.lookup C = some (excClassObj nm q C N bs bm true sn sub ab col dd k0 k1 k2 k3 k5 "ValueError.__new__") ∧ refsVE bm = true ∧ PySem.W.alongIn K "__init__" bm = some (some (.builtin "ValueError.__init__")) := by
  unfold xclsB at h
  cases e : K.lookup C with
  | none => rw [e] at h; cases h
  | some o =>
    obtain ⟨oc, od, dt, sl⟩ := o
    rw [e] at h
    cases oc with
    | type t =>
      cases dt with
      | cls cd =>
        obtain ⟨h1, h⟩ := He.ba h
        obtain ⟨h2, h⟩ := He.ba h
        obtain ⟨h3, h⟩ := He.ba h
        obtain ⟨h4, h5⟩ := He.ba h
        obtain ⟨nm, bs, mro, ns, qn, hd, sn, sb, ab, col, del⟩ := cd
        have et : t = "type" := of_decide_eq_true h1
        subst et
        simp only at h2 h3 h4
        cases mro with
        | nil => cases h2
        | cons m0 bm =>
          cases m0 with
          | ref C' =>
            obtain ⟨q1, q2⟩ := He.ba h2
            obtain ⟨q2, q3⟩ := He.ba q2
            have eC : C' = C := of_decide_eq_true q1
            subst eC
            have ed : del = false := by simpa using h4
            subst h3 ed
            obtain ⟨l, rfl⟩ : ∃ l : List (Option Value), sl = l.toArray := ⟨sl.toList, by simp⟩
            simp only [List.toList_toArray] at h5
            obtain ⟨k0, k1, k2, k3, k5, rfl⟩ := slot_ok h5
            exact ⟨nm, qn, ns, bs, bm, sn, sb, ab, col, od, k0, k1, k2, k3, k5, rfl, q2, of_decide_eq_true q3⟩
          | _ => cases h2
      | _ => cases h
    | _ => cases dt <;> cases h
theorem fn_ok {file : Str} (w : iniW K d.c = d.val) (h : fnB K file d = true) (hf : P.main.file = file) : ∃ (oc : Value) (od : Option Addr) (osl : Array (Option Value)) (doc pm : Value) (an : Option Addr) (cda cc : Addr) (ct : Value),
    K.lookup (iAt K d.c) = some ⟨oc, od, .func (ksFn "__init__" d.qual d.params d.body d.scope .none .none doc pm an (.ref cda) ct cc), osl⟩ ∧ PySem.W.codeIn K (.ref cda) d.qual = true ∧
    (∃ (ccl : Value) (cdd : Option Addr) (vs : Array Value) (ccs : Array (Option Value)) (file : Str) (tf : Tok), K.lookup cda = some ⟨ccl, cdd, .fields vs, ccs⟩ ∧ vs[2]? = some (.str file tf) ∧ ((P.main.file : Str) == file) = true) ∧
    (∃ (cl : Value) (cld : Option Addr) (csl : Array (Option Value)), K.lookup cc = some ⟨cl, cld, .cell (some (.ref (He.ga K d.c))), csl⟩) := by
  unfold iniW at w
  unfold fnB at h
  cases e : K.lookup (iAt K d.c) with
  | none => rw [e] at h; cases h
  | some o =>
    obtain ⟨oc, od, dt, osl⟩ := o
    rw [e] at h w
    cases dt with
    | func fd =>
      obtain ⟨n1, n2, n3, n4, n5, n6, n7, n8, n9, n10, n11, n12, n13, n14, n15⟩ := fd
      simp only at w h
      simp only [IniD.val, Option.some.injEq, Prod.mk.injEq] at w
      obtain ⟨w1, w2, w3, w4, w5, w6, w7, w8⟩ := w
      subst w1 w2 w3 w4 w5 w6 w8
      obtain ⟨h1, h⟩ := He.ba h
      obtain ⟨h2, h⟩ := He.ba h
      obtain ⟨h3, h4⟩ := He.ba h
      obtain rfl := isNone_eq h1
      obtain rfl := isNone_eq h2
      cases n7 with
      | nil => cases w7
      | cons p l =>
        obtain ⟨cn, cc⟩ := p
        cases l with
        | cons _ _ => cases w7
        | nil =>
          have ecn : cn = PySem.Str.ofString "__class__" := by simpa using w7
          subst ecn
          cases n13 with
          | ref cda =>
            obtain ⟨c1, c2⟩ := He.ba h3
            refine ⟨oc, od, osl, n10, n11, n12, cda, cc, n14, rfl, c1, ?_, ?_⟩
            · cases e2 : K.lookup cda with
              | none => rw [e2] at c2; cases c2
              | some o2 =>
                obtain ⟨a1, a2, a3, a4⟩ := o2
                rw [e2] at c2
                cases a3 with
                | fields vs =>
                  simp only at c2
                  cases e3 : vs[2]? with
                  | none => rw [e3] at c2; cases c2
                  | some v =>
                    rw [e3] at c2
                    cases v with
                    | str f t =>
                      have ef : file = f := of_decide_eq_true (show decide (file = f) = true from c2)
                      exact ⟨a1, a2, vs, a4, f, t, rfl, e3, by rw [hf, ef]; simp⟩
                    | _ => cases c2
                | _ => cases c2
            · have h4' : (match K.lookup cc with
                | some ⟨_, _, .cell (some (.ref D)), _⟩ => decide (D = He.ga K d.c)
                | _ => false) = true := h4
              cases e2 : K.lookup cc with
              | none => rw [e2] at h4'; cases h4'
              | some o2 =>
                obtain ⟨a1, a2, a3, a4⟩ := o2
                rw [e2] at h4'
                cases a3 with
                | cell v =>
                  cases v with
                  | none => cases h4'
                  | some v =>
                    cases v with
                    | ref D =>
                      have eD : D = He.ga K d.c := of_decide_eq_true h4'
                      rw [← eD]
                      exact ⟨a1, a2, a4, rfl⟩
                    | _ => cases h4'
                | _ => cases h4'
          | _ => cases h3
    | _ => cases h
theorem xmk_ok {file par : Str} {fm : Bool} (hw : iniW K d.c = d.val) (h : iniChk K file d = true) (hf : P.main.file = file) (htop : (P.main.scope.names.lookup ("super" : Str)).isSome = false) (gC : mg d.c = some (.ref (He.ga K d.c))) (gs : mg "super" = none)
    (T : ∃ m q0 q1 q2 q3 q4 r1 r2 r3 r4 pl, IniTx d.qual par d.fld fm d.params d.body d.scope m q0 q1 q2 q3 q4 r1 r2 r3 r4 pl) : XMk P K mg d.c d.fld fm := by
  obtain ⟨m, q0, q1, q2, q3, q4, r1, r2, r3, r4, pl, T⟩ := T
  obtain ⟨a1, h⟩ := He.ba h
  obtain ⟨a2, h⟩ := He.ba h
  obtain ⟨a3, h⟩ := He.ba h
  obtain ⟨a4, h⟩ := He.ba h
  obtain ⟨a5, h⟩ := He.ba h
  obtain ⟨a6, h⟩ := He.ba h
  obtain ⟨a7, h⟩ := He.ba h
  obtain ⟨a8, h⟩ := He.ba h
  obtain ⟨a9, h⟩ := He.ba h
  obtain ⟨a10, a11⟩ := He.ba h
  exact ⟨⟨iAt K d.c, d.qual, par, d.params, d.body, d.scope, m, q0, q1, q2, q3, q4, r1, r2, r3, r4, pl, ⟨fn_ok hw a1 hf, xcls_ok a2, of_decide_eq_true a3, of_decide_eq_true a4, of_decide_eq_true a5, of_decide_eq_true a6, htop, of_decide_eq_true a7, of_decide_eq_true a8⟩, T⟩,
    gC, a9, of_decide_eq_true a10, of_decide_eq_true a11, gs⟩
end
end Vi

namespace Vi
open PySem PySem.Spec L2

def kV (n : Nat) (g : Addr → Option Obj) : PySem.W.Frag := He.frT g (cStatics :: He.asD g n)
abbrev AlV : Type := He.AlT × (Bool × List IniW)
def obsV (n : Nat) (fa : List He.Fa) (fn : List He.DefD) (xs : List IniD) (ex : PySem.W.Frag → Bool) (g : Addr → Option Obj) : AlV := (He.obsT fa fn [] (kV n g), (ex (kV n g), xs.map fun d => iniW (kV n g) d.c))
def valV (fn : List He.DefD) (xs : List IniD) (w : World) : AlV := (He.valT fn [] w, (true, xs.map IniD.val))
structure SaysV (fa : List He.Fa) (fn : List He.DefD) (xs : List IniD) (ex : PySem.W.Frag → Bool) (K : PySem.W.Frag) : Prop where
  d : He.SaysD fa fn K
  ex : ex K = true
  ini : xs.map (fun d => iniW K d.c) = xs.map IniD.val
def hookV (n : Nat) (fa : List He.Fa) (fn : List He.DefD) (xs : List IniD) (ex : PySem.W.Frag → Bool) : PySem.W.Hook where
  α := AlV
  obs := fun s => obsV n fa fn xs ex s.heap.get?
  val := fun w => valV fn xs w
  says := fun _ h => ∃ K : PySem.W.Frag, K.In h ∧ SaysV fa fn xs ex K
  of := fun w s e => ⟨kV n s.heap.get?, He.frT_in, ⟨He.SaysT.d (ts := []) (w := w) (congrArg (fun z : AlV => z.1) e), congrArg (fun z : AlV => z.2.1) e, congrArg (fun z : AlV => z.2.2) e⟩⟩
  keeps := fun _ _ _ ⟨K, hK, c⟩ k => ⟨K, PySem.W.Frag.In.keeps hK k, c⟩
theorem obsV_eq {n : Nat} {fa : List He.Fa} {fn : List He.DefD} {xs : List IniD} {ex : PySem.W.Frag → Bool} {g : Addr → Option Obj} {s : Shared} (h : ∀ a, g a = s.heap.get? a) : obsV n fa fn xs ex g = (hookV n fa fn xs ex).obs s := by
  have e : g = s.heap.get? := funext h
  rw [e] <;> rfl
section
variable {fa : List He.Fa} {fn : List He.DefD} {xs : List IniD} {ex : PySem.W.Frag → Bool} {K : PySem.W.Frag}
theorem SaysV.inis (c : SaysV fa fn xs ex K) {d : IniD} (h : d ∈ xs) : iniW K d.c = d.val := by
  have key : ∀ l : List IniD, l.map (fun d => iniW K d.c) = l.map IniD.val → d ∈ l → iniW K d.c = d.val := by
    intro l
    induction l with
    | nil => exact fun _ h => by cases h
    | cons a l ih =>
      intro e h
      rw [List.map_cons, List.map_cons] at e
      injection e with e1 e2
      rcases List.mem_cons.mp h with rfl | h
      · exact e1
      · exact ih e2 h
  exact key xs c.ini h
end

def isXof (T : List (Str × List Str)) (t c : Str) : Option Bool := match T.lookup c with
  | some l => some (decide (t ∈ l))
  | none => none
def hitXof (T : List (Str × List Str)) (t c : Str) : Bool := isXof T t c == some true
theorem lk_mem {c : Str} {l : List Str} : ∀ {T : List (Str × List Str)}, T.lookup c = some l → (c, l) ∈ T
  | [], e => by cases e
  | (k, v) :: T, e => by
    by_cases q : c = k
    · subst q
      simp [List.lookup] at e
      rw [← e]
      exact List.mem_cons_self
    · have qb : (c == k) = false := by simpa using q
      simp only [List.lookup, qb] at e
      exact List.mem_cons_of_mem _ (lk_mem e)
theorem isXof_mem {T : List (Str × List Str)} {t c : Str} {b : Bool} (h : isXof T t c = some b) : ∃ l, (c, l) ∈ T ∧ b = decide (t ∈ l) := by
  unfold isXof at h
  cases e : T.lookup c with
  | none => rw [e] at h; cases h
  | some l =>
    rw [e] at h
    cases h
    exact ⟨l, lk_mem e, rfl⟩
def excCB (K : PySem.W.Frag) (D : Addr) : Bool :=
  decide (PySem.W.findIn K (.ref D) "__getattribute__" = some (some (.builtin "BaseException.__getattribute__"))) && (decide (PySem.W.findIn K (.ref D) "__getattr__" = some none) && (decide (PySem.W.subIn K (.ref D) (.type "BaseException") = some true) &&
  (PySem.W.hasDictIn K D && (decide (PySem.W.findIn K (.ref D) "__class__" = some (some (.builtin "object.__class__"))) && (decide (PySem.W.specialIn K (.builtin "object.__class__") "__get__" = some (some (.builtin "getset_descriptor.__get__"))) &&
  (decide (PySem.W.takesIn K (.builtin "object.__class__") = some true) && decide (PySem.W.mroIn K D (.type "object") = some true)))))))
theorem excC_ok {K : PySem.W.Frag} {D : Addr} (h : excCB K D = true) : ExcC K D := by
  obtain ⟨a1, h⟩ := He.ba h
  obtain ⟨a2, h⟩ := He.ba h
  obtain ⟨a3, h⟩ := He.ba h
  obtain ⟨a4, h⟩ := He.ba h
  obtain ⟨a5, h⟩ := He.ba h
  obtain ⟨a6, h⟩ := He.ba h
  obtain ⟨a7, a8⟩ := He.ba h
  exact ⟨of_decide_eq_true a1, of_decide_eq_true a2, of_decide_eq_true a3, a4, of_decide_eq_true a5, of_decide_eq_true a6, of_decide_eq_true a7, of_decide_eq_true a8⟩
def insB (K : PySem.W.Frag) (c : Str) : Bool :=
  (He.Fa.cls c).ok K && (decide (PySem.W.findIn K (.ref (He.ga K c)) "__class__" = some (some (.builtin "object.__class__"))) && (decide (PySem.W.specialIn K (.builtin "object.__class__") "__get__" = some (some (.builtin "getset_descriptor.__get__"))) &&
  (decide (PySem.W.takesIn K (.builtin "object.__class__") = some true) && (decide (PySem.W.mroIn K (He.ga K c) (.type "object") = some true) && ["tuple", "list", "dict", "int", "str", "bool"].all fun T => decide (PySem.W.kitOne K (.ref (He.ga K c)) (.type T) = some false)))))
theorem ins_ok {K : PySem.W.Frag} {c : Str} (h : insB K c = true) : InsF K c := by
  obtain ⟨a1, h⟩ := He.ba h
  obtain ⟨a2, h⟩ := He.ba h
  obtain ⟨a3, h⟩ := He.ba h
  obtain ⟨a4, h⟩ := He.ba h
  obtain ⟨a5, a6⟩ := He.ba h
  exact ⟨He.cls_ok a1, of_decide_eq_true a2, of_decide_eq_true a3, of_decide_eq_true a4, of_decide_eq_true a5, fun T hT => of_decide_eq_true (List.all_eq_true.mp a6 T hT)⟩
def kitB (K : PySem.W.Frag) (T : List (Str × List Str)) (tl hl : List Str) : Bool :=
  (tl.all fun t => T.all fun p => decide (PySem.W.kitOne K (.ref (He.ga K p.1)) (.ref (He.ga K t)) = some (decide (t ∈ p.2)))) &&
  ((T.all fun p => decide (PySem.W.kitOne K (.ref (He.ga K p.1)) (.type "ValueError") = some (decide (("ValueError" : Str) ∈ p.2)))) &&
  ((hl.all fun t => T.all fun p => !(decide (t ∈ p.2)) || decide (PySem.W.exmOne K (.ref (He.ga K p.1)) (.ref (He.ga K t)) = some true)) && (T.all fun p => excCB K (He.ga K p.1))))
section
variable {K : PySem.W.Frag} {T : List (Str × List Str)} {tl hl : List Str} (h : kitB K T tl hl = true)
include h
theorem kit_xi : ∀ t ∈ tl, ∀ c b, isXof T t c = some b → PySem.W.kitOne K (.ref (He.ga K c)) (.ref (He.ga K t)) = some b := fun t ht c b e => by
  obtain ⟨a1, _⟩ := He.ba h
  obtain ⟨l, hm, rfl⟩ := isXof_mem e
  exact of_decide_eq_true (List.all_eq_true.mp (List.all_eq_true.mp a1 t ht) _ hm)
theorem kit_xv : ∀ c b, isXof T "ValueError" c = some b → PySem.W.kitOne K (.ref (He.ga K c)) (.type "ValueError") = some b := fun c b e => by
  obtain ⟨_, h⟩ := He.ba h
  obtain ⟨a2, _⟩ := He.ba h
  obtain ⟨l, hm, rfl⟩ := isXof_mem e
  exact of_decide_eq_true (List.all_eq_true.mp a2 _ hm)
theorem kit_xe : ∀ t ∈ hl, ∀ c, hitXof T t c = true → PySem.W.exmOne K (.ref (He.ga K c)) (.ref (He.ga K t)) = some true := fun t ht c e => by
  obtain ⟨_, h⟩ := He.ba h
  obtain ⟨_, h⟩ := He.ba h
  obtain ⟨a3, _⟩ := He.ba h
  have e' : isXof T t c = some true := by unfold hitXof at e; simpa using e
  obtain ⟨l, hm, q⟩ := isXof_mem e'
  have := List.all_eq_true.mp (List.all_eq_true.mp a3 t ht) _ hm
  simp only [← q, Bool.not_true, Bool.false_or] at this
  exact of_decide_eq_true this
theorem kit_xc : ∀ t c b, isXof T t c = some b → ExcC K (He.ga K c) := fun t c b e => by
  obtain ⟨_, h⟩ := He.ba h
  obtain ⟨_, h⟩ := He.ba h
  obtain ⟨_, a4⟩ := He.ba h
  obtain ⟨l, hm, _⟩ := isXof_mem e
  exact excC_ok (List.all_eq_true.mp a4 _ hm)
end
def xfsB (K : PySem.W.Frag) (cs : List Str) (f : Str) : Bool := cs.all fun c => xfB K (He.ga K c) && decide (PySem.W.findIn K (.ref (He.ga K c)) f = some none)
theorem xfs_ok {K : PySem.W.Frag} {cs : List Str} {f : Str} (h : xfsB K cs f = true) : ∀ c ∈ cs, XfC K (He.ga K c) ∧ PySem.W.findIn K (.ref (He.ga K c)) f = some none := fun c hc => by
  obtain ⟨a, b⟩ := He.ba (List.all_eq_true.mp h c hc)
  exact ⟨xfB_ok a, of_decide_eq_true b⟩
def fldsB (K : PySem.W.Frag) (cs : List Str) (f : Str) : Bool := cs.all fun c => (He.Fa.cls c).ok K && (He.Fa.noat c f).ok K
theorem flds_ok {K : PySem.W.Frag} {cs : List Str} {f : Str} (h : fldsB K cs f = true) : ∀ c ∈ cs, FldC K c f := fun c hc => by
  obtain ⟨a, b⟩ := He.ba (List.all_eq_true.mp h c hc)
  exact ⟨He.cls_ok a, He.noat_ok b⟩
end Vi

namespace Vi
open PySem PySem.Spec L2
def scalD : D → Bool
  | .non => true
  | .bl _ => true
  | .int _ => true
  | .str _ => true
  | _ => false
def vCallL (F : FN) (as : List Ar) : M D := bind (evs as) fun ss ρ => match rds ρ ss with
  | some ds => (match F (ds.map .dat) with
    | .ok d _ => if scalD d = true then .ok d ρ else .no
    | _ => .no)
  | none => .no
section
variable {K : PySem.W.Frag} {μ : Mu} {W : WX} {X : Cx} {σ : St} {ρ : En} {H G : Hp}
theorem scal_rp {G G' : Hp} {d : D} {v : V} (h : scalD d = true) (r : Rp K G v d) : Rp K G' v d := by
  cases d with
  | non => cases r; exact .non
  | bl b => cases r; exact .bl b
  | int i => cases r; exact .int i
  | str x => cases r; exact .str x
  | _ => cases h
theorem rb_all (s : Same G H) : ∀ {xs : List V} {ds : List D}, RbA K H G xs ds → RpA K H xs ds
  | _, _, .nil => .nil
  | _, _, .cons r t => .cons (by
      rcases r with r | ⟨a, u, m, rfl, h, r, rfl⟩
      · exact r.up s
      · exact (r.up s).frz h) (rb_all s t)
theorem evs_len : ∀ {as : List Ar} {ρ ρ' : En} {ss : List (Sum Nat D)}, evs as ρ = .ok ss ρ' → ss.length = as.length
  | [], _, _, _, h => by cases h; rfl
  | a :: as, ρ, ρ', ss, h => by
    unfold evs Vi.bind at h
    cases e1 : ev a ρ with
    | no => rw [e1] at h; cases h
    | ex c ns ds r => rw [e1] at h; cases h
    | ok s ρ1 =>
      rw [e1] at h
      simp only at h
      cases e2 : evs as ρ1 with
      | no => rw [e2] at h; cases h
      | ex c ns ds r => rw [e2] at h; cases h
      | ok ss' ρ2 =>
        rw [e2] at h
        cases h
        rw [List.length_cons, List.length_cons, evs_len e2]
theorem rds_len {ρ : En} : ∀ {ss : List (Sum Nat D)} {ds : List D}, rds ρ ss = some ds → ds.length = ss.length
  | [], _, h => by cases h; rfl
  | s :: ss, ds, h => by
    unfold rds at h
    split at h
    · split at h
      · rename_i e2
        cases h
        rw [List.length_cons, List.length_cons, rds_len e2]
      · cases h
    · cases h
theorem pda_len : ∀ {vs : List V} {ss : List (Sum Nat D)}, PdA K σ G vs ss → vs.length = ss.length
  | _, _, .nil => rfl
  | _, _, .cons _ t => by rw [List.length_cons, List.length_cons, pda_len t]
theorem go_callL {n : Nat} {F : FN} {as : List Ar} {Q : VK} (hn : as.length = n) (w : lE K μ W (vCallL F as) σ H Q) : rArs K μ W as σ H fun vs H1 => spF K n F vs H1 Q fun cls d H => W cls d σ H := by
  obtain ⟨ρ, G, R, w⟩ := w
  have w2 : Post K μ W σ ρ H G (bind (evs as) (fun ss ρ => if ss.length = as.length then (match rds ρ ss with
    | some ds => (match F (ds.map .dat) with
      | .ok d _ => if scalD d = true then .ok d ρ else .no
      | _ => .no)
    | none => .no) else .no) ρ) fun d _ H' G' => ∀ v, Rp K G' v d → Q v H' := by
    unfold vCallL Vi.bind at w
    unfold Vi.bind
    cases e : evs as ρ with
    | ok ss ρ' => rw [e] at w; simp only; rw [if_pos (evs_len e)]; exact w
    | ex c ns ds r => rw [e] at w; exact w
    | no => rw [e] at w; exact w
  refine evs_go R w2 fun vs ss ρ1 H1 G1 R1 S1 pd h => ?_
  by_cases hl : ss.length = as.length
  · rw [if_pos hl] at h
    cases er : rds ρ1 ss with
    | none => rw [er] at h; exact h.elim
    | some ds =>
      rw [er] at h
      simp only at h
      have ra : RpA K H1 vs ds := rb_all R1.vis (pd.rb R1 er)
      refine ⟨ds.map .dat, H1, μ, Rl.args μ ra (.refl _), argOk_dat ds, by rw [List.length_map, rds_len er, hl, hn], ?_⟩
      cases ef : F (ds.map .dat) with
      | no => rw [ef] at h; exact h.elim
      | ex c ns es as' => rw [ef] at h; exact h.elim
      | ok d as' =>
        rw [ef] at h
        simp only at h
        by_cases sc : scalD d = true
        · rw [if_pos sc] at h
          refine fun v H' G' B rv => ?_
          have A := B.alloc
          have A2 : Alloc H1 G1 H' G1 := ⟨A.h, .refl _, R1.vis.trans A.h, fun _ _ h => .inl h⟩
          exact Post.alloc R1 A2 h v (scal_rp sc rv)
        · rw [if_neg sc] at h; exact h.elim
  · rw [if_neg hl] at h; exact h.elim
variable {j k n : Nat} {ps : List Str} {F : FN} {as : List Ar} {x : Str} {p pos : Pos} {e : Expr} {es : List Expr}
theorem v_fkL (h : FK X.prog X.w X.K X.mg X.base j n x ps F) (hr : RoomG k X.A) (hk : j ≤ k) (hg : Gl X x) (tk : Takes X W) (ha : PA X (e :: es) (rArs K μ W as)) (hn : as.length = n := by rfl) (hdb : (x == ("__debug__" : Str)) = false := by decide) (he : starEach (e :: es) X.env = (false, eval e X.env) :: starEach es X.env := by rfl) (hpl : (backTo pos (starEach es X.env)).any (·.1) = false := by rfl) (hK : X.K = K := by rfl) :
    PE X (.Call (.Name x p) (e :: es) [] pos) (lE K μ W (vCallL F as)) := by
  subst hK
  obtain ⟨⟨fd, h1, h2⟩, kp, g⟩ := h
  exact PE_of (pe_callG h1 (hr.mono hk) hg g kp h2 (fun σ => passAt tk σ) ha hdb he hpl) fun σ H Q w => go_callL hn w
end
end Vi

namespace Vi
open PySem PySem.Spec L2
section
open PyProof.Rows
variable {P : Program} {w : World} {K : PySem.W.Frag} {mg mb : Str → Option Value} {k : Nat} {fa a : Addr} {x : Str} {sp : Sp} {s₁ : Shared} {vs : List Value} {ns : List Int}
theorem lawF (KX : K.In s₁.heap) (hns : s₁.heap.Ns mainGlobals mg) (hb : s₁.heap.Ns builtinsNs mb) (hbb : ∀ x : Str, x ≠ "__name__" → mb x = bootBuiltins x) (hlim : s₁.heap.NoLimit) (hg : s₁.gens = #[])
    (ha : s₁.heap.get? a = some { cls := .type "list", data := .seq vs.toArray }) (hi : IntsAre vs ns) (hl : ns.length ≤ sizeLine) (hr : Room k callerA)
    (F : ∀ base : Heap, K.In base → base.Ns mainGlobals mg → ∃ fd : FuncData, FnG P w K mg base (L2.CX P w) k fa fd [x] sp ∧ Binds K fd [x] [])
    (hsp : ∀ H : Hp, Only H → SqL K H a (ns.map V.int) → sp [.ref a] H (fun v _ => v = .bl true) fun _ _ _ => False)
    (hCX : ∀ H e s', L2.CX P w [] H s₁ (fun _ _ _ => False) e s' → False) :
    codeAny (model P w) callerA (.call (.ref fa) ⟨[.ref a], []⟩) (fun r s' => r = .ok (.ret (.bool true)) ∧ OldK s₁.heap s'.heap ∧ s'.os = s₁.os ∧ AllBare s'.gens) s₁ := by
  obtain ⟨H, S⟩ := sees (P := P) (w := w) KX ha hi hl
  have low : ∀ {b : Addr} {o : Obj}, s₁.heap.get? b = some o → H b = none → (hidT s₁.heap H).get? b = some o := fun e n => hidT_get e n
  have noD : ∀ {b : Addr} {o : Obj} {es : Array DictEntry} {ep : Nat}, s₁.heap.get? b = some o → o.data = .dict es ep → H b = none := fun {b o es ep} e d => by
    cases q : H b with
    | none => rfl
    | some u =>
      obtain rfl := S.at_ b (by rw [q]; simp)
      rw [ha] at e
      cases e
      cases d
  have ns' : ∀ {b : Addr} {m : Str → Option Value}, s₁.heap.Ns b m → (hidT s₁.heap H).Ns b m := fun ⟨o, es, ep, e, d, r⟩ => ⟨o, es, ep, low e (noD e d), d, r⟩
  have K' : K.In (hidT s₁.heap H) := fun b o e => low (KX b o e) (by
    cases q : H b with
    | none => rfl
    | some u => rw [S.notK b (by rw [q]; simp)] at e; cases e)
  have e0 : Env0 P w K mg (hidT s₁.heap H) callerA [] s₁ H := ⟨rfl, ⟨K', ns' hns, ⟨mb, ns' hb, hbb⟩, let ⟨mc, h1, h2⟩ := hlim; ⟨mc, ns' h1, h2⟩⟩, fun b o e => of_hidT e, Nat.le_of_eq (hidT_size _ _), trivial, fun b hb => absurd (show b ∈ ([] : List Addr) from hb) (by simp), S.ok, .of_eq hg⟩
  obtain ⟨fd, F1, hbind⟩ := F _ K' (ns' hns)
  refine codeAny_mono (F1.run callerA [] s₁ H ⟨[.ref a], []⟩ [.ref a] [.ref a] _ _ ⟨hr, rfl⟩ e0 (hbind s₁ [.ref a] KX rfl) (.cons rfl .nil) (hsp H S.only S.seq)) fun r s' h => ?_
  cases r with
  | error e => exact (hCX H e s' h).elim
  | ok fl =>
    cases fl with
    | next => exact False.elim h
    | brk => exact False.elim h
    | cont => exact False.elim h
    | ret u =>
      obtain ⟨v, H', os, bare, un, hok', r', q⟩ := h
      obtain rfl : v = .bl true := q
      obtain rfl : u = Value.bool true := r'
      refine ⟨rfl, OldK.of_keep fun b o e => ?_, os, bare⟩
      rcases S.only b with z | ⟨ob, xs, z⟩
      · exact un.keep b o e z (fun y => absurd (show b ∈ ([] : List Addr) from y) (by simp)) (by simp)
      · obtain ⟨e1, _⟩ := S.ok b _ z
        obtain ⟨e2, _⟩ := hok' b _ (un.frzs b ob _ z)
        rw [e] at e1
        cases e1
        exact e2
theorem walkF {l : PySem.W.OpenLaw} {n k : Nat} {q : Program} {loose : List Str} {XP : (Str → Option Value) → Heap → Prop} {YP : World → Heap → Prop} {d : DefRec} {x : Str}
    (hn : l.most = some n) (hn2 : n ≤ sizeLine) (hdf : d.params.defaults = []) (hr : Room k callerA)
    (F : ∀ (w : World) (mg : Str → Option Value) (fa : Addr) (h : Heap), YP w h → h.Ns mainGlobals mg → mg d.name = some (.ref fa) →
      ∃ (K : PySem.W.Frag) (sp : Sp), K.In h ∧
        (∀ (H : Hp) (a : Addr) (ns : List Int), ns.length ≤ n → Only H → SqL K H a (ns.map V.int) → sp [.ref a] H (fun v _ => v = .bl true) fun _ _ _ => False) ∧
        ∀ base : Heap, K.In base → base.Ns mainGlobals mg → ∃ fd : FuncData, FnG l.prog w K mg base (L2.CX l.prog w) k fa fd [x] sp ∧ Binds K fd [x] [])
    (hCX : ∀ (w : World) (H : Hp) (s : Shared) (e : Value) (s' : Shared), L2.CX l.prog w [] H s (fun _ _ _ => False) e s' → False) :
    PySem.W.WalkO q loose XP YP l.row.toRowW d [] (fun f vs => PySem.call f vs) :=
  Att.attach_call hn hdf fun w s₀ s₁ mg mb fa o pm cd doc a vs ns G Y ho hd hcd hmg hobj hints hlen hg => by
    obtain ⟨K, sp, KX, hsp, hF⟩ := F w mg fa _ Y G.T.g hmg
    exact lawF KX G.T.g G.T.b G.T.builtins G.T.nolimit hg hobj hints (Nat.le_trans hlen hn2) hr hF (fun H hO hS => hsp H a ns hlen hO hS) fun H e s' => hCX w H s₁ e s'
end
end Vi

namespace Vi
open PySem PySem.Spec L2
def top (i : Nat) : Stmt := PySem.Challenge.pw_ownedonce_k00_rows_and_vectors.main.body.getD i (.Pass ⟨0, 0, 0, 0⟩)
/-- the classes whose instances are made -/
def cs : List Str := ["Point"]
/-- the error classes that are raised, each with what stands over it -/
def exT : List (Str × List Str) := [("BadCall", ["BadCall", "OwnError", "ValueError"]), ("BadVector", ["BadVector", "OwnError", "ValueError"])]
def isX (t c : Str) : Option Bool := isXof exT t c
def hitX (t c : Str) : Bool := hitXof exT t c
def tl : List Str := ["BadCall", "BadCell", "BadCut", "BadLattice", "BadLoop", "BadMap", "BadMesh", "BadRule", "BadText", "BadVector", "BadWall", "NoDirection", "NotClean", "NotGood", "NotOnce", "TooMuch"]
def hl : List Str := ["OwnError"]
def fl_den : List Str := ["Point"]
def fl_dim : List Str := ["Point"]
def fl_nums : List Str := ["Point"]
def xf_why : List Str := ["BadCall", "BadVector"]
/-- what the head has written -/
structure Tx (P : Program) (K : PySem.W.Frag) (mg : Str → Option Value) : Prop where
  ins : ∀ c ∈ cs, InsF K c
  f_ValueError : mg "ValueError" = none
  f_abs : mg "abs" = none
  f_bool : mg "bool" = none
  f_dict : mg "dict" = none
  f_int : mg "int" = none
  f_isinstance : mg "isinstance" = none
  f_len : mg "len" = none
  f_list : mg "list" = none
  f_max : mg "max" = none
  f_min : mg "min" = none
  f_range : mg "range" = none
  f_repr : mg "repr" = none
  f_str : mg "str" = none
  f_sum : mg "sum" = none
  f_tuple : mg "tuple" = none
  f_zip : mg "zip" = none
  c_MOST_DIM : ∃ t, mg "MOST_DIM" = some (.int 4 t)
  c_MOST_NUMBER : ∃ t, mg "MOST_NUMBER" = some (.int 1000000 t)
  g_BadCall : mg "BadCall" = some (.ref (He.ga K "BadCall"))
  g_BadCell : mg "BadCell" = some (.ref (He.ga K "BadCell"))
  g_BadCut : mg "BadCut" = some (.ref (He.ga K "BadCut"))
  g_BadLattice : mg "BadLattice" = some (.ref (He.ga K "BadLattice"))
  g_BadLoop : mg "BadLoop" = some (.ref (He.ga K "BadLoop"))
  g_BadMap : mg "BadMap" = some (.ref (He.ga K "BadMap"))
  g_BadMesh : mg "BadMesh" = some (.ref (He.ga K "BadMesh"))
  g_BadRule : mg "BadRule" = some (.ref (He.ga K "BadRule"))
  g_BadText : mg "BadText" = some (.ref (He.ga K "BadText"))
  g_BadVector : mg "BadVector" = some (.ref (He.ga K "BadVector"))
  g_BadWall : mg "BadWall" = some (.ref (He.ga K "BadWall"))
  g_NoDirection : mg "NoDirection" = some (.ref (He.ga K "NoDirection"))
  g_NotClean : mg "NotClean" = some (.ref (He.ga K "NotClean"))
  g_NotGood : mg "NotGood" = some (.ref (He.ga K "NotGood"))
  g_NotOnce : mg "NotOnce" = some (.ref (He.ga K "NotOnce"))
  g_OwnError : mg "OwnError" = some (.ref (He.ga K "OwnError"))
  g_TooMuch : mg "TooMuch" = some (.ref (He.ga K "TooMuch"))
  x_BadCall : XMk P K mg "BadCall" "why" true
  x_BadVector : XMk P K mg "BadVector" "why" true
  fl_den : ∀ c ∈ fl_den, FldC K c "den"
  fl_dim : ∀ c ∈ fl_dim, FldC K c "dim"
  fl_nums : ∀ c ∈ fl_nums, FldC K c "nums"
  xf_why : ∀ c ∈ xf_why, XfC K (He.ga K c) ∧ PySem.W.findIn K (.ref (He.ga K c)) "why" = some none
  xc : ∀ t c b, isX t c = some b → ExcC K (He.ga K c)
  xi : ∀ t ∈ tl, ∀ c b, isX t c = some b → PySem.W.kitOne K (.ref (He.ga K c)) (.ref (He.ga K t)) = some b
  xv : ∀ c b, isX "ValueError" c = some b → PySem.W.kitOne K (.ref (He.ga K c)) (.type "ValueError") = some b
  xe : ∀ t ∈ hl, ∀ c, hitX t c = true → PySem.W.exmOne K (.ref (He.ga K c)) (.ref (He.ga K t)) = some true
end Vi
namespace Vi
open PySem PySem.Spec L2
abbrev st_w_mix : Stmt := top 42
def b_w_mix : VS := (vSeq (vSet 2 (ret (.int 2305843009213693951)))
    (vSeq (vSet 3 (opv [.ex (opv [.nm 0] (o1 intD)), .nm 2] (o2 modD)))
    (vSeq (vSet 3 (opv [.ex (opv [.ex (opv [.ex (opv [.nm 3, .ex (ret (.int 6364136223846793))] (o2 mulD)), .ex (opv [.ex (opv [.nm 1, .ex (ret (.int 1))] (o2 addD)), .ex (ret (.int 1442695040888963407))] (o2 mulD))] (o2 addD))] (o1 intD)), .nm 2] (o2 modD)))
    (vSeq (vSet 3 (opv [.ex (opv [.ex (opv [.ex (opv [.ex (opv [.nm 3, .nm 3] (o2 mulD)), .ex (opv [.nm 3, .ex (ret (.int 704602925438635))] (o2 mulD))] (o2 addD)), .ex (ret (.int 1013904223))] (o2 addD))] (o1 intD)), .nm 2] (o2 modD)))
    (vSeq (vSet 3 (opv [.ex (opv [.ex (opv [.ex (opv [.ex (opv [.nm 3, .nm 3] (o2 mulD)), .ex (opv [.nm 1, .ex (ret (.int 3202034522624059))] (o2 mulD))] (o2 addD)), .ex (ret (.int 88172645463325252))] (o2 addD))] (o1 intD)), .nm 2] (o2 modD)))
    (vRet (opv [.nm 3, .ex (ret (.int 4096))] (o2 fdivD))))))))
def F_w_mix : FN := runF 2 4 b_w_mix

abbrev st_w_store : Stmt := top 43
def b_w_store : VS := (vSeq (vSetO 1 (vLc [3] (.nm 3) (itSeq (frz (vSl sliceO (.nm 0) none (some (.ex (ret (.int 63))))))) (ret true) (opv [.nm 3] (o1 intD))))
    (vSeq (vSet 2 (ret (.int 1234567891)))
    (vSeq (vFor (.nm 3) (itSeq (vVar 1)) (vSet 2 (vCall F_w_mix [(opv [.nm 2, .ex (opv [.ex (opv [.nm 3] (o1 intD)), .ex (ret (.int 2305843009213693951))] (o2 modD))] (o2 addD)), (opv [.ex (ret (.int 3)), .ex (opv [.nm 1] (o1 lenD))] (o2 addD))])))
    (vRetO (vLst [(vVar 1), (ret (.int 0)), (ret (.int 0)), (ret (.int 0)), (ret (.int 0)), (vVar 2)])))))
def F_w_store : FO := runO 1 4 b_w_store

abbrev st_w_take : Stmt := top 44
def b_w_take : VS := (vSeq (vIf (vTb (opv [.nm 1, .ex (ret (.int 2))] (o2 ltD))) (vRet (ret (.int 0))) vNx)
    (vSeq (vPut 0 (ret (.int 4)) (opv [.ex (opv [.nm 0, .ex (ret (.int 4))] (o2 ixD)), .ex (ret (.int 1))] (o2 addD)))
    (vSeq (vFor (.nm 2) (itRng (o1 rng1D) [.ex (ret (.int 65))]) (vSeq (vIf (vTb (opv [.ex (opv [.nm 0, .ex (ret (.int 2))] (o2 ixD)), .ex (ret (.int 0))] (o2 gtD))) (vSeq (vSet 3 (opv [.ex (opv [.ex (opv [.nm 0, .ex (ret (.int 2))] (o2 ixD))] (o1 intD)), .nm 1] (o2 modD)))
    (vSeq (vPut 0 (ret (.int 2)) (opv [.ex (opv [.nm 0, .ex (ret (.int 2))] (o2 ixD)), .nm 1] (o2 fdivD)))
    (vRet (vVar 3)))) vNx)
    (vSeq (vIf (vTb (opv [.ex (opv [.nm 0, .ex (ret (.int 1))] (o2 ixD)), .ex (opv [.ex (opv [.nm 0, .ex (ret (.int 0))] (o2 ixD))] (o1 lenD))] (o2 geD))) (vRet (opv [.ex (opv [.ex (vCall F_w_mix [(opv [.nm 0, .ex (ret (.int 5))] (o2 ixD)), (opv [.nm 0, .ex (ret (.int 4))] (o2 ixD))])] (o1 intD)), .nm 1] (o2 modD))) vNx)
    (vSeq (vSet 4 (opv [.ex (opv [.nm 0, .ex (ret (.int 0))] (o2 ixD)), .ex (opv [.nm 0, .ex (ret (.int 1))] (o2 ixD))] (o2 ixD)))
    (vIf (vTb (opv [.nm 4, .ex (opv [.ex (ret (.int 10)), .ex (ret (.int 18))] (o2 powD))] (o2 geD))) (vSeq (vPut 0 (ret (.int 1)) (opv [.ex (opv [.nm 0, .ex (ret (.int 1))] (o2 ixD)), .ex (ret (.int 1))] (o2 addD)))
    (vPut 0 (ret (.int 2)) (opv [.ex (opv [.nm 4] (o1 intD)), .ex (opv [.ex (opv [.ex (ret (.int 10)), .ex (ret (.int 60))] (o2 powD)), .ex (ret (.int 14))] (o2 powD))] (o2 modD)))) (vSeq (vPut 0 (ret (.int 3)) (opv [.ex (opv [.nm 0, .ex (ret (.int 3))] (o2 ixD)), .ex (ret (.int 1))] (o2 addD)))
    (vSeq (vIf (vTb (opv [.ex (opv [.nm 0, .ex (ret (.int 3))] (o2 ixD)), .ex (ret (.int 2))] (o2 gtD))) (vSeq (vPut 0 (ret (.int 1)) (opv [.ex (opv [.nm 0, .ex (ret (.int 1))] (o2 ixD)), .ex (ret (.int 1))] (o2 addD)))
    (vPut 0 (ret (.int 3)) (ret (.int 0)))) vNx)
    (vRet (opv [.ex (opv [.ex (vCall F_w_mix [(vVar 4), (opv [.nm 0, .ex (ret (.int 4))] (o2 ixD))])] (o1 intD)), .nm 1] (o2 modD))))))))))
    (vRet (ret (.int 0))))))
def F_w_take : FN := runF 2 5 b_w_take

abbrev st_w_small : Stmt := top 47
def b_w_small : VS := (vSeq (vIf (vTb (opv [.ex (vCallM F_w_take 0 [(ret (.int 3))]), .ex (ret (.int 0))] (o2 eqD))) (vSet 2 (opv [.ex (frz (vLst [(ret (.int 0)), (ret (.int 1)), (opv [.ex (ret (.int 1))] (o1 negD)), (vVar 1), (opv [.nm 1] (o1 negD))])), .ex (vCallM F_w_take 0 [(ret (.int 5))])] (o2 ixD))) (vSet 2 (opv [.ex (vCallM F_w_take 0 [(opv [.ex (opv [.ex (ret (.int 2)), .nm 1] (o2 mulD)), .ex (ret (.int 1))] (o2 addD))]), .nm 1] (o2 subD))))
    (vRet (opv [.ex (opv [.nm 1] (o1 negD)), .ex (opv [.nm 1, .nm 2] (o2 min2D))] (o2 max2D))))
def F_w_small : FN := runF 2 3 b_w_small

abbrev st_w_pick : Stmt := top 45
def b_w_pick : VS := (vRet (opv [.nm 1, .ex (vCallM F_w_take 0 [(opv [.nm 1] (o1 lenD))])] (o2 ixD)))
def F_w_pick : FN := runF 2 2 b_w_pick

abbrev st_w_row : Stmt := top 54
def b_w_row : VS := (vSeq (vSet 3 (vCallM F_w_take 0 [(ret (.int 6))]))
    (vSeq (vSetO 4 (vLc [6] (.nm 6) (itRng (o1 rng1D) [.nm 1]) (ret true) (vCallM F_w_small 0 [(vVar 2)])))
    (vSeq (vIf (vTb (opv [.nm 3, .ex (ret (.int 0))] (o2 eqD))) (vSetO 4 (opo [.ex (frz (vLst [(ret (.int 0))])), .nm 1] (o2 mulO))) vNx)
    (vSeq (vIf (vTb (opv [.nm 3, .ex (ret (.int 1))] (o2 eqD))) (vSeq (vSetO 4 (opo [.ex (frz (vLst [(ret (.int 0))])), .nm 1] (o2 mulO)))
    (vPut 4 (vCallM F_w_take 0 [(vVar 1)]) (vCallM F_w_pick 0 [(frz (vLst [(ret (.int 1)), (opv [.ex (ret (.int 1))] (o1 negD)), (vVar 2), (opv [.nm 2] (o1 negD))]))]))) vNx)
    (vSeq (vIf (vTb (opv [.nm 3, .ex (ret (.int 2))] (o2 eqD))) (vSeq (vSet 5 (opv [.nm 4, .ex (ret (.int 0))] (o2 ixD)))
    (vSetO 4 (opo [.ex (frz (vLst [(vVar 5)])), .nm 1] (o2 mulO)))) vNx)
    (vRet (opv [.nm 4] (o1 tupD))))))))
def F_w_row : FN := runF 3 7 b_w_row

abbrev st_w_great_vector : Stmt := top 56
def b_w_great_vector : VS := (vSeq (vSetO 3 (vLst []))
    (vSeq (vFor (.nm 4) (itRng (o1 rng1D) [.nm 1]) (vSeq (vSet 5 (opv [.ex (vCallM F_w_take 0 [(opv [.ex (opv [.ex (ret (.int 2)), .ex (opv [.ex (ret (.int 10)), .ex (ret (.int 6))] (o2 powD))] (o2 mulD)), .ex (ret (.int 1))] (o2 addD))]), .ex (opv [.ex (ret (.int 10)), .ex (ret (.int 6))] (o2 powD))] (o2 subD)))
    (vSeq (vIf (vTb (opv [.ex (vCallM F_w_take 0 [(ret (.int 3))]), .ex (ret (.int 0))] (o2 eqD))) (vSet 5 (vCallM F_w_pick 0 [(frz (vLst [(opv [.ex (ret (.int 10)), .ex (ret (.int 6))] (o2 powD)), (opv [.ex (opv [.ex (ret (.int 10)), .ex (ret (.int 6))] (o2 powD))] (o1 negD))]))])) vNx)
    (vApp 3 (vVar 5)))))
    (vSeq (vSet 6 (vCallM F_w_take 0 [(vVar 1)]))
    (vSeq (vPut 3 (vVar 6) (vCallM F_w_pick 0 [(frz (vLst [(ret (.int 1)), (opv [.ex (ret (.int 1))] (o1 negD))]))]))
    (vSeq (vIf (vTt (.nm 2)) (vSeq (vSet 7 (opv [.ex (opv [.ex (opv [.ex (opv [.nm 6, .ex (ret (.int 1))] (o2 addD)), .ex (vCallM F_w_take 0 [(opv [.nm 1, .ex (ret (.int 1))] (o2 subD))])] (o2 addD))] (o1 intD)), .nm 1] (o2 modD)))
    (vPut 3 (vVar 7) (opv [.ex (vCallM F_w_pick 0 [(frz (vLst [(ret (.int 1)), (opv [.ex (ret (.int 1))] (o1 negD))]))]), .ex (opv [.ex (opv [.ex (opv [.ex (ret (.int 10)), .ex (ret (.int 6))] (o2 powD)), .ex (ret (.int 1))] (o2 addD)), .ex (vCallM F_w_take 0 [(ret (.int 5))])] (o2 addD))] (o2 mulD)))) vNx)
    (vRet (opv [.nm 3] (o1 tupD))))))))
def F_w_great_vector : FN := runF 3 8 b_w_great_vector

abbrev st_w_gcd : Stmt := top 49
def b_w_gcd : VS := (vSeq (vSet 2 (opv [.nm 0] (o1 absD)))
    (vSeq (vSet 3 (opv [.nm 1] (o1 absD)))
    (vSeq (vFor (.nm 4) (itRng (o1 rng1D) [.ex (ret (.int 4500))]) (vSeq (vIf (vTb (opv [.nm 3, .ex (ret (.int 0))] (o2 eqD))) (vRet (vVar 2)) vNx)
    (vPar 2 3 (vVar 3) (opv [.ex (opv [.nm 2] (o1 intD)), .nm 3] (o2 modD)))))
    (vRet (vVar 2)))))
def F_w_gcd : FN := runF 2 5 b_w_gcd

abbrev st_w_content : Stmt := top 50
def b_w_content : VS := (vSeq (vSet 1 (ret (.int 0)))
    (vSeq (vFor (.nm 2) (itSeq (vVar 0)) (vSet 1 (vCall F_w_gcd [(vVar 1), (vVar 2)])))
    (vRet (vVar 1))))
def F_w_content : FN := runF 1 3 b_w_content

abbrev st_w_prim : Stmt := top 51
def b_w_prim : VS := (vSeq (vSet 1 (vCall F_w_content [(vVar 0)]))
    (vSeq (vIf (vTb (opv [.nm 1, .ex (ret (.int 0))] (o2 eqD))) (vRet (opv [.nm 0] (o1 tupD))) vNx)
    (vRet (opv [.ex (frz (vLc [2] (.nm 2) (itSeq (vVar 0)) (ret true) (opv [.nm 2, .nm 1] (o2 fdivD))))] (o1 tupD)))))
def F_w_prim : FN := runF 1 3 b_w_prim

abbrev st_w_vector : Stmt := top 55
def b_w_vector : VS := (vSeq (vSetO 3 (opo [.ex (vCallM F_w_row 0 [(vVar 1), (vVar 2)])] (o1 listO)))
    (vSeq (vIf (vTb (opv [.ex (vCallL F_w_content [.nm 3]), .ex (ret (.int 0))] (o2 eqD))) (vPut 3 (vCallM F_w_take 0 [(vVar 1)]) (vCallM F_w_pick 0 [(frz (vLst [(ret (.int 1)), (opv [.ex (ret (.int 1))] (o1 negD))]))])) vNx)
    (vRet (vCall F_w_prim [(vVar 3)]))))
def F_w_vector : FN := runF 3 4 b_w_vector

abbrev st_w_number : Stmt := top 48
def b_w_number : VS := (vSeq (vSet 1 (vCallM F_w_take 0 [(ret (.int 8))]))
    (vSeq (vIf (vTb (opv [.nm 1, .ex (ret (.int 3))] (o2 ltD))) (vRet (vCallM F_w_small 0 [(ret (.int 9))])) vNx)
    (vSeq (vIf (vTb (opv [.nm 1, .ex (ret (.int 3))] (o2 eqD))) (vRet (vCallM F_w_small 0 [(ret (.int 1000))])) vNx)
    (vSeq (vIf (vTb (opv [.nm 1, .ex (ret (.int 4))] (o2 eqD))) (vSeq (vSet 2 (frz (vLst [(opv [.ex (ret (.int 10)), .ex (ret (.int 6))] (o2 powD)), (opv [.ex (opv [.ex (opv [.ex (ret (.int 10)), .ex (ret (.int 6))] (o2 powD))] (o1 negD)), .ex (ret (.int 1))] (o2 subD)), (opv [.ex (ret (.int 10)), .ex (ret (.int 12))] (o2 powD)), (opv [.ex (opv [.ex (ret (.int 10)), .ex (ret (.int 12))] (o2 powD)), .ex (ret (.int 1))] (o2 addD)), (opv [.ex (opv [.ex (ret (.int 10)), .ex (ret (.int 12))] (o2 powD))] (o1 negD)), (opv [.ex (ret (.int 10)), .ex (ret (.int 18))] (o2 powD)), (opv [.ex (opv [.ex (ret (.int 10)), .ex (ret (.int 30))] (o2 powD)), .ex (ret (.int 1))] (o2 subD)), (opv [.ex (ret (.int 1)), .ex (opv [.ex (ret (.int 10)), .ex (ret (.int 30))] (o2 powD))] (o2 subD))])))
    (vRet (vCallM F_w_pick 0 [(vVar 2)]))) vNx)
    (vSeq (vSet 3 (ret (.int 0)))
    (vSeq (vFor (.nm 4) (itRng (o1 rng1D) [.ex (ret (.int 5))]) (vSet 3 (opv [.ex (opv [.nm 3, .ex (opv [.ex (ret (.int 10)), .ex (ret (.int 6))] (o2 powD))] (o2 mulD)), .ex (vCallM F_w_take 0 [(opv [.ex (ret (.int 10)), .ex (ret (.int 6))] (o2 powD))])] (o2 addD))))
    (vSeq (vIf (vTb (opv [.nm 1, .ex (ret (.int 5))] (o2 eqD))) (vSet 3 (opv [.ex (opv [.nm 3] (o1 intD)), .ex (opv [.ex (ret (.int 10)), .ex (ret (.int 12))] (o2 powD))] (o2 modD))) vNx)
    (vSeq (vIf (vTb (opv [.ex (vCallM F_w_take 0 [(ret (.int 2))]), .ex (ret (.int 0))] (o2 eqD))) (vRet (vVar 3)) vNx)
    (vRet (opv [.nm 3] (o1 negD)))))))))))
def F_w_number : FN := runF 1 5 b_w_number

abbrev st_w_built : Stmt := top 62
def b_w_built : VS := (vSeq (vSet 2 (vCallM F_w_take 0 [(ret (.int 8))]))
    (vSeq (vIf (vTb (opv [.nm 2, .ex (ret (.int 2))] (o2 ltD))) (vRet (vCallM F_w_row 0 [(vVar 1), (ret (.int 9))])) vNx)
    (vSeq (vIf (vTb (opv [.nm 2, .ex (ret (.int 2))] (o2 eqD))) (vSeq (vSet 3 (vCallM F_w_pick 0 [(frz (vLst [(ret (.int 1)), (ret (.int 2)), (ret (.int 3)), (ret (.int 6)), (opv [.ex (ret (.int 10)), .ex (ret (.int 6))] (o2 powD)), (opv [.ex (opv [.ex (ret (.int 10)), .ex (ret (.int 24))] (o2 powD)), .ex (ret (.int 7))] (o2 addD)), (opv [.ex (ret (.int 10)), .ex (ret (.int 29))] (o2 powD))]))]))
    (vRet (opv [.ex (frz (vLc [5] (.nm 5) (itSeq (vCallM F_w_vector 0 [(vVar 1), (ret (.int 5))])) (ret true) (opv [.nm 3, .nm 5] (o2 mulD))))] (o1 tupD)))) vNx)
    (vSeq (vIf (vTb (opv [.nm 2, .ex (ret (.int 3))] (o2 eqD))) (vRet (vCallM F_w_great_vector 0 [(vVar 1), (ret (.bl false))])) vNx)
    (vSeq (vIf (vAnd (vTb (opv [.nm 2, .ex (ret (.int 4))] (o2 eqD))) (vTb (opv [.nm 1, .ex (ret (.int 1))] (o2 gtD)))) (vRet (vCallM F_w_great_vector 0 [(vVar 1), (ret (.bl true))])) vNx)
    (vSeq (vIf (vTb (opv [.nm 2, .ex (ret (.int 5))] (o2 eqD))) (vSeq (vSet 3 (vCallM F_w_pick 0 [(frz (vLst [(ret (.int 2)), (ret (.int 3)), (opv [.ex (ret (.int 10)), .ex (ret (.int 6))] (o2 powD)), (opv [.ex (opv [.ex (ret (.int 10)), .ex (ret (.int 18))] (o2 powD)), .ex (ret (.int 9))] (o2 addD))]))]))
    (vRet (opv [.ex (frz (vLc [5] (.nm 5) (itSeq (vCallM F_w_great_vector 0 [(vVar 1), (ret (.bl false))])) (ret true) (opv [.nm 3, .nm 5] (o2 mulD))))] (o1 tupD)))) vNx)
    (vSeq (vIf (vTb (opv [.nm 2, .ex (ret (.int 6))] (o2 eqD))) (vRet (vCallM F_w_vector 0 [(vVar 1), (ret (.int 9))])) vNx)
    (vRet (opv [.ex (frz (vLc [4] (.nm 4) (itRng (o1 rng1D) [.nm 1]) (ret true) (vCallM F_w_number 0 [])))] (o1 tupD))))))))))
def F_w_built : FN := runF 2 6 b_w_built

abbrev st_w_mixed : Stmt := top 46
def b_w_mixed : VS := (vSeq (vSetO 2 (opo [.nm 1] (o1 listO)))
    (vSeq (vFor (.nm 3) (itRng (o3 rng3D) [.ex (opv [.ex (opv [.nm 2] (o1 lenD)), .ex (ret (.int 1))] (o2 subD)), .ex (ret (.int 0)), .ex (opv [.ex (ret (.int 1))] (o1 negD))]) (vSeq (vSet 4 (vCallM F_w_take 0 [(opv [.nm 3, .ex (ret (.int 1))] (o2 addD))]))
    (vSwap 2 2 (vVar 3) (vVar 4) (vTup [(opv [.nm 2, .nm 4] (o2 ixD)), (opv [.nm 2, .nm 3] (o2 ixD))]))))
    (vRet (vVar 2))))
def F_w_mixed : FN := runF 2 5 b_w_mixed

abbrev st_w_dressed : Stmt := top 64
def b_w_dressed : VS := (vSeq (vSetO 2 (vLst []))
    (vSeq (vFor (.nm 3) (itSeq (vVar 1)) (vSeq (vSetO 4 (vLst []))
    (vSeq (vFor (.nm 5) (itSeq (vVar 3)) (vSeq (vIf (vAnd (vTb (opv [.nm 5] (isi1 cs .tup))) (vTb (opv [.ex (vCallM F_w_take 0 [(ret (.int 2))]), .ex (ret (.int 0))] (o2 eqD)))) (vSet 5 (frz (opo [.nm 5] (o1 listO)))) vNx)
    (vApp 4 (vVar 5))))
    (vSeq (vIf (vTb (opv [.ex (vCallM F_w_take 0 [(ret (.int 2))]), .ex (ret (.int 0))] (o2 eqD))) (vSet 4 (opv [.nm 4] (o1 tupD))) vNx)
    (vApp 2 (vVar 4))))))
    (vRet (vVar 2))))
def F_w_dressed : FN := runF 2 6 b_w_dressed

abbrev st_w_is_number : Stmt := top 58
def b_w_is_number : VS := (vRet (vAndV (opv [.nm 0] (isi1 cs .int)) (vNotV (opv [.nm 0] (isi1 cs .bl)))))
def F_w_is_number : FN := runF 1 1 b_w_is_number

abbrev st_w_alike : Stmt := top 59
def b_w_alike : VS := (vSeq (vSetO 2 (vLst [(vTup [(vVar 0), (vVar 1)])]))
    (vSeq (vFor (.nm 3) (itRng (o1 rng1D) [.ex (ret (.int 200000))]) (vSeq (vIf (vTb (opv [.ex (opv [.nm 2] (o1 lenD)), .ex (ret (.int 0))] (o2 eqD))) (vRet (ret (.bl true))) vNx)
    (vSeq (vAsg (.tup [4, 5]) (vPop 2))
    (vIf (vOr (vTb (opv [.nm 5, .ex (ret .non)] (o2 isD))) (vTb (opv [.nm 5] (isi1 cs .bl)))) (vIf (vOr (vAnd (vTb (opv [.nm 5, .ex (ret .non)] (o2 isD))) (vTb (opv [.nm 4, .ex (ret .non)] (o2 isnD)))) (vAnd (vTb (opv [.nm 5, .ex (ret .non)] (o2 isnD))) (vOr (vNot (vTb (opv [.nm 4] (isi1 cs .bl)))) (vTb (opv [.nm 4, .nm 5] (o2 neD)))))) (vRet (ret (.bl false))) vNx) (vIf (vTb (opv [.nm 5] (isi1 cs .int))) (vIf (vOr (vNot (vTb (vCall F_w_is_number [(vVar 4)]))) (vTb (opv [.nm 4, .nm 5] (o2 neD)))) (vRet (ret (.bl false))) vNx) (vIf (vTb (opv [.nm 5] (isi1 cs .str))) (vIf (vOr (vNot (vTb (opv [.nm 4] (isi1 cs .str)))) (vTb (opv [.nm 4, .nm 5] (o2 neD)))) (vRet (ret (.bl false))) vNx) (vIf (vTb (opv [.nm 5] (isi1 cs .dic))) vNo (vSeq (vIf (vAnd (vTb (opv [.nm 5] (isi1 cs .tup))) (vNot (vTb (opv [.nm 4] (isi1 cs .tup))))) (vRet (ret (.bl false))) vNx)
    (vSeq (vIf (vOr (vAnd (vTb (opv [.nm 5] (isi1 cs .lst))) (vNot (vTb (opv [.nm 4] (isi1 cs .lst))))) (vTb (opv [.ex (opv [.nm 4] (o1 lenD)), .ex (opv [.nm 5] (o1 lenD))] (o2 neD)))) (vRet (ret (.bl false))) vNx)
    (vFor (.nm 6) (itRng (o1 rng1D) [.ex (opv [.nm 5] (o1 lenD))]) (vApp 2 (vTup [(opv [.nm 4, .nm 6] (o2 ixD)), (opv [.nm 5, .nm 6] (o2 ixD))]))))))))))))
    (vRet (opv [.ex (opv [.nm 2] (o1 lenD)), .ex (ret (.int 0))] (o2 eqD)))))
def F_w_alike : FN := runF 2 7 b_w_alike

abbrev st_p_check_row : Stmt := top 26
def b_p_check_row : VS := (vIf (vNot (vTb (vChain (.ex (ret (.int 1))) (.ex (opv [.nm 0] (o1 lenD))) (.ex (ret (.int 4))) (o2 leD) (o2 leD)))) (vRaise "BadCall" "why" true (ret (.str "dim"))) vNx)
def F_p_check_row : FN := runF 1 1 b_p_check_row

abbrev st_p_check_rows : Stmt := top 27
def b_p_check_rows : VS := (vFor (.nm 1) (itSeq (vVar 0)) (vSeq (vDrop (vCall F_p_check_row [(vVar 1)]))
    (vIf (vTb (opv [.ex (opv [.nm 1] (o1 lenD)), .ex (opv [.ex (opv [.nm 0, .ex (ret (.int 0))] (o2 ixD))] (o1 lenD))] (o2 neD))) (vRaise "BadCall" "why" true (ret (.str "dim"))) vNx)))
def F_p_check_rows : FN := runF 1 2 b_p_check_rows

abbrev st_p_combination : Stmt := top 34
def b_p_combination : VS := (vSeq (vDrop (vCall F_p_check_rows [(vVar 1)]))
    (vSeq (vIf (vTb (opv [.ex (opv [.nm 1] (o1 lenD)), .ex (ret (.int 0))] (o2 eqD))) (vRaise "BadCall" "why" true (ret (.str "rows"))) vNx)
    (vSeq (vIf (vTb (opv [.ex (opv [.nm 0] (o1 lenD)), .ex (opv [.nm 1] (o1 lenD))] (o2 neD))) (vRaise "BadCall" "why" true (ret (.str "weights"))) vNx)
    (vSeq (vSet 2 (opv [.ex (frz (vLst [(ret (.int 0))])), .ex (opv [.ex (opv [.nm 1, .ex (ret (.int 0))] (o2 ixD))] (o1 lenD))] (o2 mulD)))
    (vSeq (vFor (.tup [3, 4]) (itZip [(vVar 0), (vVar 1)]) (vSetO 2 (vLc [5, 6] (.tup [5, 6]) (itZip [(vVar 2), (vVar 4)]) (ret true) (opv [.nm 5, .ex (opv [.nm 3, .nm 6] (o2 mulD))] (o2 addD)))))
    (vRet (opv [.nm 2] (o1 tupD))))))))
def F_p_combination : FN := runF 2 7 b_p_combination

abbrev st_p_common_vectors : Stmt := top 23
def b_p_common_vectors : VS := (vSeq (vWhile fuelE (vTb (opv [.nm 1, .ex (ret (.int 0))] (o2 neD))) (vPar 0 1 (vVar 1) (opv [.nm 0, .nm 1] (o2 modD))))
    (vRet (vVar 0)))
def F_p_common_vectors : FN := runF 2 2 b_p_common_vectors

abbrev st_p_divisor : Stmt := top 25
def b_p_divisor : VS := (vSeq (vSet 1 (ret (.int 0)))
    (vSeq (vFor (.nm 2) (itSeq (vVar 0)) (vSeq (vSet 1 (vCall F_p_common_vectors [(vVar 1), (opv [.nm 2] (o1 absD))]))
    (vIf (vTb (opv [.nm 1, .ex (ret (.int 1))] (o2 eqD))) (vRet (ret (.int 1))) vNx)))
    (vRet (vVar 1))))
def F_p_divisor : FN := runF 1 3 b_p_divisor

abbrev st_p_is_vector : Stmt := top 28
def b_p_is_vector : VS := (vSeq (vIf (vOr (vNot (vTb (opv [.nm 0] (isiT cs [.tup, .lst])))) (vNot (vTb (vChain (.ex (ret (.int 1))) (.ex (opv [.nm 0] (o1 lenD))) (.ex (ret (.int 4))) (o2 leD) (o2 leD))))) (vRet (ret (.bl false))) vNx)
    (vSeq (vFor (.nm 1) (itSeq (vVar 0)) (vSeq (vIf (vOr (vTb (opv [.nm 1] (isi1 cs .bl))) (vNot (vTb (opv [.nm 1] (isi1 cs .int))))) (vRet (ret (.bl false))) vNx)
    (vIf (vTb (opv [.ex (opv [.nm 1] (o1 absD)), .ex (ret (.int 1000000))] (o2 gtD))) (vRet (ret (.bl false))) vNx)))
    (vRet (opv [.ex (vCall F_p_divisor [(vVar 0)]), .ex (ret (.int 1))] (o2 eqD)))))
def F_p_is_vector : FN := runF 1 2 b_p_is_vector

abbrev st_p_primitive : Stmt := top 29
def b_p_primitive : VS := (vSeq (vDrop (vCall F_p_check_row [(vVar 0)]))
    (vSeq (vSet 1 (vCall F_p_divisor [(vVar 0)]))
    (vSeq (vIf (vTb (opv [.nm 1, .ex (ret (.int 0))] (o2 eqD))) (vRaise "BadVector" "why" true (ret (.str "zero"))) vNx)
    (vRet (opv [.ex (frz (vLc [2] (.nm 2) (itSeq (vVar 0)) (ret true) (opv [.nm 2, .nm 1] (o2 fdivD))))] (o1 tupD))))))
def F_p_primitive : FN := runF 1 3 b_p_primitive

abbrev st_p_turned_up : Stmt := top 30
def b_p_turned_up : VS := (vSeq (vFor (.nm 1) (itSeq (vVar 0)) (vSeq (vIf (vTb (opv [.nm 1, .ex (ret (.int 0))] (o2 gtD))) (vRet (opv [.nm 0] (o1 tupD))) vNx)
    (vIf (vTb (opv [.nm 1, .ex (ret (.int 0))] (o2 ltD))) (vRet (opv [.ex (frz (vLc [2] (.nm 2) (itSeq (vVar 0)) (ret true) (opv [.nm 2] (o1 negD))))] (o1 tupD))) vNx)))
    (vRet (opv [.nm 0] (o1 tupD))))
def F_p_turned_up : FN := runF 1 3 b_p_turned_up

abbrev st_p_upright : Stmt := top 31
def b_p_upright : VS := (vRet (vCall F_p_turned_up [(vCall F_p_primitive [(vVar 0)])]))
def F_p_upright : FN := runF 1 1 b_p_upright

abbrev st_p_contrary : Stmt := top 32
def b_p_contrary : VS := (vSeq (vDrop (vCall F_p_check_row [(vVar 0)]))
    (vRet (opv [.ex (frz (vLc [1] (.nm 1) (itSeq (vVar 0)) (ret true) (opv [.nm 1] (o1 negD))))] (o1 tupD))))
def F_p_contrary : FN := runF 1 2 b_p_contrary

abbrev st_p_dot : Stmt := top 33
def b_p_dot : VS := (vSeq (vDrop (vCall F_p_check_rows [(vTup [(vVar 0), (vVar 1)])]))
    (vRet (opv [.ex (frz (vLc [2, 3] (.tup [2, 3]) (itZip [(vVar 0), (vVar 1)]) (ret true) (opv [.nm 2, .nm 3] (o2 mulD))))] (o1 sumD))))
def F_p_dot : FN := runF 2 4 b_p_dot

abbrev st_w_call : Stmt := top 60
def b_w_call : VS := (vSeq (vIf (vTb (opv [.nm 0, .ex (ret (.str "is_vector"))] (o2 eqD))) (vRet (vCall F_p_is_vector [(opv [.nm 1, .ex (ret (.int 0))] (o2 ixD))])) vNx)
    (vSeq (vIf (vTb (opv [.nm 0, .ex (ret (.str "primitive"))] (o2 eqD))) (vRet (vCall F_p_primitive [(opv [.nm 1, .ex (ret (.int 0))] (o2 ixD))])) vNx)
    (vSeq (vIf (vTb (opv [.nm 0, .ex (ret (.str "upright"))] (o2 eqD))) (vRet (vCall F_p_upright [(opv [.nm 1, .ex (ret (.int 0))] (o2 ixD))])) vNx)
    (vSeq (vIf (vTb (opv [.nm 0, .ex (ret (.str "contrary"))] (o2 eqD))) (vRet (vCall F_p_contrary [(opv [.nm 1, .ex (ret (.int 0))] (o2 ixD))])) vNx)
    (vSeq (vIf (vTb (opv [.nm 0, .ex (ret (.str "dot"))] (o2 eqD))) (vRet (vCall F_p_dot [(opv [.nm 1, .ex (ret (.int 0))] (o2 ixD)), (opv [.nm 1, .ex (ret (.int 1))] (o2 ixD))])) vNx)
    (vRet (vCall F_p_combination [(opv [.nm 1, .ex (ret (.int 0))] (o2 ixD)), (opv [.nm 1, .ex (ret (.int 1))] (o2 ixD))])))))))
def F_w_call : FN := runF 2 2 b_w_call

abbrev st_w_try : Stmt := top 61
def b_w_try : VS := (vSeq (vTryAs (hitX "OwnError") 2 (vRet (vTup [(ret (.str "told")), (vCall F_w_call [(vVar 0), (vVar 1)])])) (vSeq (vSet 3 (frz (vLst [(vIsE (isX "NoDirection") 2), (vIsE (isX "BadWall") 2), (vIsE (isX "BadRule") 2), (vIsE (isX "BadCell") 2), (vIsE (isX "BadCut") 2), (vIsE (isX "BadMesh") 2), (vIsE (isX "BadLoop") 2), (vIsE (isX "BadLattice") 2), (vIsE (isX "BadMap") 2), (vIsE (isX "BadText") 2), (vIsE (isX "NotClean") 2), (vIsE (isX "NotGood") 2), (vIsE (isX "NotOnce") 2), (vIsE (isX "TooMuch") 2)])))
    (vSeq (vSet 4 (frz (vLst [(vIsE (isX "BadCall") 2), (vIsE (isX "BadVector") 2)])))
    (vSeq (vIf (vOr (vTb (opv [.ex (ret (.bl true)), .nm 3] (o2 inD))) (vOr (vTb (opv [.ex (vCount (vVar 4) (ret (.bl true))), .ex (ret (.int 1))] (o2 neD))) (vNot (vTb (vIsE (isX "ValueError") 2))))) (vRet (vTup [(ret (.str "refused")), (ret (.str "another")), (ret (.str ""))])) vNx)
    (vSeq (vIf (vTb (vIsE (isX "BadCall") 2)) (vRet (vTup [(ret (.str "refused")), (ret (.str "BadCall")), (vXf xf_why "why" 2)])) vNx)
    (vIf (vTb (vIsE (isX "BadVector") 2)) (vRet (vTup [(ret (.str "refused")), (ret (.str "BadVector")), (vXf xf_why "why" 2)])) vNx))))))
    (vRet (vTup [(ret (.str "refused")), (ret (.str "another")), (ret (.str ""))])))
def F_w_try : FN := runF 2 5 b_w_try

abbrev st_w_asked : Stmt := top 65
def b_w_asked : VS := (vSeq (vSet 4 (vCallM F_w_dressed 0 [(vVar 2)]))
    (vSeq (vSet 5 (opv [.nm 4] (o1 reprD)))
    (vSeq (vIf (vOr (vNot (vTb (vCall F_w_alike [(vCall F_w_try [(vVar 1), (vVar 4)]), (vVar 3)]))) (vTb (opv [.ex (opv [.nm 4] (o1 reprD)), .nm 5] (o2 neD)))) (vRet (ret (.bl false))) vNx)
    (vRet (vAndV (vCall F_w_alike [(vCall F_w_try [(vVar 1), (vVar 4)]), (vVar 3)]) (opv [.ex (opv [.nm 4] (o1 reprD)), .nm 5] (o2 eqD)))))))
def F_w_asked : FN := runF 4 6 b_w_asked

abbrev st_w_sums_told : Stmt := top 69
def b_w_sums_told : VS := (vSeq (vSet 1 (opv [.ex (ret (.int 1)), .ex (vCallM F_w_take 0 [(ret (.int 4))])] (o2 addD)))
    (vSeq (vSet 2 (opv [.ex (ret (.int 1)), .ex (vCallM F_w_take 0 [(ret (.int 6))])] (o2 addD)))
    (vSeq (vIf (vTb (opv [.ex (vCallM F_w_take 0 [(ret (.int 12))]), .ex (ret (.int 0))] (o2 eqD))) (vSet 2 (ret (.int 60))) vNx)
    (vSeq (vSet 3 (frz (vLc [10] (.nm 10) (itRng (o1 rng1D) [.nm 2]) (ret true) (vCallM F_w_built 0 [(vVar 1)]))))
    (vSeq (vSet 4 (frz (vLc [10] (.nm 10) (itRng (o1 rng1D) [.nm 2]) (ret true) (vCallM F_w_number 0 []))))
    (vSeq (vSet 5 (opv [.ex (frz (vLc [11] (.nm 11) (itRng (o1 rng1D) [.nm 1]) (ret true) (opv [.ex (frz (vLc [10] (.nm 10) (itRng (o1 rng1D) [.nm 2]) (ret true) (opv [.ex (opv [.nm 4, .nm 10] (o2 ixD)), .ex (opv [.ex (opv [.nm 3, .nm 10] (o2 ixD)), .nm 11] (o2 ixD))] (o2 mulD))))] (o1 sumD))))] (o1 tupD)))
    (vSeq (vIf (vNot (vTb (vCallM F_w_asked 0 [(ret (.str "combination")), (frz (vLst [(vVar 4), (vVar 3)])), (vTup [(ret (.str "told")), (vVar 5)])]))) (vRet (ret (.bl false))) vNx)
    (vSeq (vSet 6 (vCallM F_w_pick 0 [(frz (vLst [(opv [.nm 4, .ex (frz (vLst [(ret (.int 0))]))] (o2 addD)), (vSl sliceD (.nm 4) (some (.ex (ret (.int 1)))) none), (frz (vLst []))]))]))
    (vSeq (vIf (vNot (vTb (vCallM F_w_asked 0 [(ret (.str "combination")), (frz (vLst [(vVar 6), (vVar 3)])), (vTup [(ret (.str "refused")), (ret (.str "BadCall")), (ret (.str "weights"))])]))) (vRet (ret (.bl false))) vNx)
    (vSeq (vSet 6 (vCallM F_w_pick 0 [(frz (vLst [(frz (vLst [])), (frz (vLst [(ret (.int 1))])), (vVar 4)]))]))
    (vSeq (vIf (vNot (vTb (vCallM F_w_asked 0 [(ret (.str "combination")), (frz (vLst [(vVar 6), (frz (vLst []))])), (vTup [(ret (.str "refused")), (ret (.str "BadCall")), (ret (.str "rows"))])]))) (vRet (ret (.bl false))) vNx)
    (vSeq (vSet 7 (vCallM F_w_take 0 [(opv [.nm 2, .ex (ret (.int 1))] (o2 addD))]))
    (vSeq (vSet 8 (vCallM F_w_built 0 [(opv [.ex (ret (.int 1)), .ex (opv [.ex (opv [.ex (opv [.nm 1, .ex (vCallM F_w_take 0 [(ret (.int 3))])] (o2 addD))] (o1 intD)), .ex (ret (.int 4))] (o2 modD))] (o2 addD))]))
    (vSeq (vIf (vTb (opv [.ex (vCallM F_w_take 0 [(ret (.int 2))]), .ex (ret (.int 0))] (o2 eqD))) (vSet 8 (vCallM F_w_pick 0 [(frz (vLst [(vTup []), (vTup [(ret (.int 1)), (ret (.int 0)), (ret (.int 0)), (ret (.int 0)), (ret (.int 0))])]))])) vNx)
    (vSeq (vSet 9 (opv [.ex (opv [.ex (vSl sliceD (.nm 3) none (some (.nm 7))), .ex (frz (vLst [(vVar 8)]))] (o2 addD)), .ex (vSl sliceD (.nm 3) (some (.nm 7)) none)] (o2 addD)))
    (vSeq (vSet 6 (vCallM F_w_pick 0 [(frz (vLst [(vVar 4), (opv [.nm 4, .ex (frz (vLst [(ret (.int 1))]))] (o2 addD)), (frz (vLst []))]))]))
    (vRet (vCallM F_w_asked 0 [(ret (.str "combination")), (frz (vLst [(vVar 6), (vVar 9)])), (vTup [(ret (.str "refused")), (ret (.str "BadCall")), (ret (.str "dim"))])]))))))))))))))))))
def F_w_sums_told : FN := runF 1 12 b_w_sums_told

abbrev st_w_lengths_told : Stmt := top 70
def b_w_lengths_told : VS := (vSeq (vFor (.nm 1) (itSeq (frz (vLst [(ret (.str "primitive")), (ret (.str "upright")), (ret (.str "contrary")), (ret (.str "dot"))]))) (vSeq (vSet 2 (vCallM F_w_pick 0 [(frz (vLst [(vTup []), (vTup [(ret (.int 0)), (ret (.int 0)), (ret (.int 0)), (ret (.int 0)), (ret (.int 0))]), (vTup [(ret (.int 1)), (ret (.int 0)), (ret (.int 0)), (ret (.int 0)), (ret (.int 0))]), (vTup [(ret (.int 2)), (ret (.int 4)), (ret (.int 6)), (ret (.int 8)), (ret (.int 10)), (ret (.int 12))]), (vTup [(ret (.int 0)), (ret (.int 0)), (ret (.int 0)), (ret (.int 0)), (ret (.int 0)), (ret (.int 1))])]))]))
    (vSeq (vIf (vNot (vTb (vCallM F_w_asked 0 [(ret (.str "is_vector")), (frz (vLst [(vVar 2)])), (vTup [(ret (.str "told")), (ret (.bl false))])]))) (vRet (ret (.bl false))) vNx)
    (vIf (vNot (vTb (vCallM F_w_asked 0 [(vVar 1), (frz (vLst [(vVar 2), (vVar 2)])), (vTup [(ret (.str "refused")), (ret (.str "BadCall")), (ret (.str "dim"))])]))) (vRet (ret (.bl false))) vNx))))
    (vRet (ret (.bl true))))
def F_w_lengths_told : FN := runF 1 3 b_w_lengths_told

abbrev st_w_odd : Stmt := top 57
def b_w_odd : VS := (vRet (vCallM F_w_pick 0 [(frz (vLst [(ret .non), (ret (.bl true)), (ret (.bl false)), (ret (.int 0)), (ret (.int 7)), (opv [.ex (ret (.int 1))] (o1 negD)), (ret (.str "")), (ret (.str "shift")), (ret (.str "ring")), (vTup [(ret (.str "ring"))]), (vTup [(ret (.str "shift"))]), (vTup [(ret (.str "pair")), (ret (.int 0))]), (vDic [] []), (vTup [(ret (.str "ring")), (vTup [])]), (vTup [(ret (.str "ring")), (vTup [(vTup [])])]), (frz (vLst [(frz (vLst []))])), (vDic [.inr "ring"] [(ret (.int 1))]), (vTup [(ret (.str "paper")), (ret .non)]), (vTup [(ret (.str "point")), (vTup [(ret (.int 0)), (ret (.int 0))])]), (vTup [(ret (.str "least"))]), (vTup [(ret (.str "not"))]), (vTup [(ret (.str "falls"))]), (vTup [(vTup [(ret (.str "ring")), (vTup [])])]), (vTup [(ret (.str "shift")), (vTup [(ret (.str "1"))])]), (frz (vLst [(ret (.str "shift")), (vTup [(ret (.int 1))])]))]))]))
def F_w_odd : FN := runF 1 1 b_w_odd

abbrev st_w_near : Stmt := top 66
def b_w_near : VS := (vSeq (vSet 2 (vCallM F_w_vector 0 [(vVar 1), (ret (.int 9))]))
    (vSeq (vSetO 3 (opo [.nm 2] (o1 listO)))
    (vSeq (vSet 4 (vCallM F_w_take 0 [(vVar 1)]))
    (vSeq (vSet 5 (vCallM F_w_take 0 [(ret (.int 11))]))
    (vSeq (vIf (vTb (opv [.nm 5, .ex (ret (.int 5))] (o2 ltD))) (vSeq (vSet 6 (frz (vLst [(opv [.ex (opv [.nm 3, .nm 4] (o2 ixD)), .ex (ret (.int 1))] (o2 eqD)), (opv [.ex (opv [.nm 3, .nm 4] (o2 ixD))] (o1 strD)), (vTup [(opv [.nm 3, .nm 4] (o2 ixD))]), (ret .non), (ret (.bl true))])))
    (vPut 3 (vVar 4) (opv [.nm 6, .nm 5] (o2 ixD)))) (vIf (vTb (opv [.nm 5, .ex (ret (.int 8))] (o2 ltD))) (vSet 3 (opv [.ex (frz (vLst [(opv [.nm 3, .ex (opv [.ex (frz (vLst [(ret (.int 0))])), .ex (opv [.ex (ret (.int 5)), .nm 1] (o2 subD))] (o2 mulD))] (o2 addD)), (frz (vLc [7] (.nm 7) (itSeq (vVar 3)) (ret true) (opv [.ex (ret (.int 2)), .nm 7] (o2 mulD)))), (frz (vLst [(vVar 2)]))])), .ex (opv [.nm 5, .ex (ret (.int 5))] (o2 subD))] (o2 ixD))) (vRet (vCallM F_w_pick 0 [(frz (vLst [(vDic [.inl 0] [(opv [.nm 3, .ex (ret (.int 0))] (o2 ixD))]), (opv [.nm 2] (o1 strD)), (vCallM F_w_odd 0 [])]))]))))
    (vSeq (vIf (vTb (opv [.ex (vCallM F_w_take 0 [(ret (.int 2))]), .ex (ret (.int 0))] (o2 eqD))) (vRet (opv [.nm 3] (o1 tupD))) vNx)
    (vRet (vVar 3))))))))
def F_w_near : FN := runF 2 8 b_w_near

abbrev st_p_common : Stmt := top 36
def b_p_common : VS := (vSeq (vSet 2 (opv [.nm 0] (o1 absD)))
    (vSeq (vSet 3 (opv [.nm 1] (o1 absD)))
    (vSeq (vWhile fuelE (vTb (opv [.nm 3, .ex (ret (.int 0))] (o2 neD))) (vPar 2 3 (vVar 3) (opv [.nm 2, .nm 3] (o2 modD))))
    (vRet (vVar 2)))))
def F_p_common : FN := runF 2 4 b_p_common

abbrev st_i_Point : Stmt := inClass (top 40) 0
def b_i_Point : VS := (vSeq (vIf (vNot (vTb (vChain (.ex (ret (.int 1))) (.ex (opv [.nm 1] (o1 lenD))) (.ex (ret (.int 4))) (o2 leD) (o2 leD)))) (vRaise "BadCall" "why" true (ret (.str "dim"))) vNx)
    (vSeq (vIf (vTb (opv [.nm 2, .ex (ret (.int 1))] (o2 ltD))) (vRaise "BadCall" "why" true (ret (.str "den"))) vNx)
    (vSeq (vSet 3 (vVar 2))
    (vSeq (vFor (.nm 4) (itSeq (vVar 1)) (vSet 3 (vCall F_p_common [(vVar 3), (vVar 4)])))
    (vSeq (vFld fl_nums 0 "nums" (opv [.ex (frz (vLc [4] (.nm 4) (itSeq (vVar 1)) (ret true) (opv [.nm 4, .nm 3] (o2 fdivD))))] (o1 tupD)))
    (vSeq (vFld fl_den 0 "den" (opv [.nm 2, .nm 3] (o2 fdivD)))
    (vFld fl_dim 0 "dim" (opv [.ex (opv [.nm 0] (o1 (fldD fl_nums "nums")))] (o1 lenD)))))))))
def F_i_Point : FN := runF 3 5 b_i_Point

abbrev st_w_kinds : Stmt := top 67
def b_w_kinds : VS := (vSeq (vFor (.nm 1) (itRng (o1 rng1D) [.ex (ret (.int 5))]) (vSeq (vSet 2 (opv [.ex (ret (.int 1)), .ex (vCallM F_w_take 0 [(ret (.int 4))])] (o2 addD)))
    (vSeq (vSet 3 (vCallM F_w_near 0 [(vVar 2)]))
    (vSeq (vSet 4 (opv [.nm 3] (o1 reprD)))
    (vSeq (vIf (vOr (vNot (vTb (vCall F_w_alike [(vCall F_w_try [(ret (.str "is_vector")), (frz (vLst [(vVar 3)]))]), (vTup [(ret (.str "told")), (ret (.bl false))])]))) (vTb (opv [.ex (opv [.nm 3] (o1 reprD)), .nm 4] (o2 neD)))) (vRet (ret (.bl false))) vNx)
    (vSeq (vSet 5 (vCallM F_w_vector 0 [(vVar 2), (ret (.int 9))]))
    (vSeq (vIf (vNot (vTb (vCall F_w_alike [(vCall F_w_try [(ret (.str "is_vector")), (frz (vLst [(vMake "Point" F_i_Point [(vVar 5)] [] [.int 1])]))]), (vTup [(ret (.str "told")), (ret (.bl false))])]))) (vRet (ret (.bl false))) vNx)
    (vIf (vNot (vTb (vCallM F_w_asked 0 [(ret (.str "is_vector")), (frz (vLst [(vVar 5)])), (vTup [(ret (.str "told")), (ret (.bl true))])]))) (vRet (ret (.bl false))) vNx))))))))
    (vRet (ret (.bl true))))
def F_w_kinds : FN := runF 1 6 b_w_kinds

abbrev st_w_dots_told : Stmt := top 68
def b_w_dots_told : VS := (vSeq (vFor (.nm 1) (itRng (o1 rng1D) [.ex (ret (.int 3))]) (vSeq (vSet 2 (opv [.ex (ret (.int 1)), .ex (vCallM F_w_take 0 [(ret (.int 4))])] (o2 addD)))
    (vSeq (vSet 3 (vCallM F_w_built 0 [(vVar 2)]))
    (vSeq (vSet 4 (vCallM F_w_built 0 [(vVar 2)]))
    (vSeq (vSet 5 (opv [.ex (opv [.ex (frz (vLc [7] (.nm 7) (itRng (o1 rng1D) [.nm 2]) (ret true) (opv [.ex (opv [.ex (opv [.ex (opv [.nm 3, .nm 7] (o2 ixD)), .ex (opv [.nm 4, .nm 7] (o2 ixD))] (o2 addD)), .ex (ret (.int 2))] (o2 powD)), .ex (opv [.ex (opv [.ex (opv [.nm 3, .nm 7] (o2 ixD)), .ex (opv [.nm 4, .nm 7] (o2 ixD))] (o2 subD)), .ex (ret (.int 2))] (o2 powD))] (o2 subD))))] (o1 sumD)), .ex (ret (.int 4))] (o2 fdivD)))
    (vSeq (vIf (vNot (vTb (vCallM F_w_asked 0 [(ret (.str "dot")), (frz (vLst [(vVar 3), (vVar 4)])), (vTup [(ret (.str "told")), (vVar 5)])]))) (vRet (ret (.bl false))) vNx)
    (vSeq (vSet 6 (vCallM F_w_built 0 [(opv [.ex (ret (.int 1)), .ex (opv [.ex (opv [.ex (opv [.nm 2, .ex (vCallM F_w_take 0 [(ret (.int 3))])] (o2 addD))] (o1 intD)), .ex (ret (.int 4))] (o2 modD))] (o2 addD))]))
    (vIf (vNot (vTb (vCallM F_w_asked 0 [(ret (.str "dot")), (vCallM F_w_mixed 0 [(frz (vLst [(vVar 3), (vVar 6)]))]), (vTup [(ret (.str "refused")), (ret (.str "BadCall")), (ret (.str "dim"))])]))) (vRet (ret (.bl false))) vNx))))))))
    (vRet (ret (.bl true))))
def F_w_dots_told : FN := runF 1 8 b_w_dots_told

abbrev st_w_turned : Stmt := top 52
def b_w_turned : VS := (vRet (opv [.ex (frz (vLc [1] (.nm 1) (itSeq (vVar 0)) (ret true) (opv [.nm 1] (o1 negD))))] (o1 tupD)))
def F_w_turned : FN := runF 1 2 b_w_turned

abbrev st_w_up : Stmt := top 53
def b_w_up : VS := (vSeq (vSet 1 (vCall F_w_prim [(vVar 0)]))
    (vRet (opv [.nm 1, .ex (opv [.ex (frz (vLc [2] (.nm 2) (itSeq (vVar 1)) (ret true) (opv [.nm 2] (o1 negD))))] (o1 tupD))] (o2 maxTD))))
def F_w_up : FN := runF 1 3 b_w_up

abbrev st_w_due : Stmt := top 63
def b_w_due : VS := (vSeq (vIf (vTb (opv [.nm 0, .ex (ret (.str "is_vector"))] (o2 eqD))) (vSeq (vSet 2 (opv [.ex (frz (vLc [3] (.nm 3) (itSeq (vVar 1)) (ret true) (opv [.nm 3] (o1 absD))))] (o1 maxLD)))
    (vRet (vTup [(ret (.str "told")), (vAndV (opv [.ex (vCall F_w_content [(vVar 1)]), .ex (ret (.int 1))] (o2 eqD)) (opv [.nm 2, .ex (opv [.ex (ret (.int 10)), .ex (ret (.int 6))] (o2 powD))] (o2 leD)))]))) vNx)
    (vSeq (vIf (vTb (opv [.nm 0, .ex (ret (.str "contrary"))] (o2 eqD))) (vRet (vTup [(ret (.str "told")), (vCall F_w_turned [(vVar 1)])])) vNx)
    (vSeq (vIf (vTb (opv [.ex (vCall F_w_content [(vVar 1)]), .ex (ret (.int 0))] (o2 eqD))) (vRet (vTup [(ret (.str "refused")), (ret (.str "BadVector")), (ret (.str "zero"))])) vNx)
    (vSeq (vIf (vTb (opv [.nm 0, .ex (ret (.str "upright"))] (o2 eqD))) (vRet (vTup [(ret (.str "told")), (vCall F_w_up [(vVar 1)])])) vNx)
    (vRet (vTup [(ret (.str "told")), (vCall F_w_prim [(vVar 1)])]))))))
def F_w_due : FN := runF 2 4 b_w_due

abbrev st_p_law : Stmt := top 71
def b_p_law : VS := (vSeq (vSetO 1 (vCallO F_w_store [(vVar 0)]))
    (vSeq (vFor (.nm 2) (itRng (o1 rng1D) [.ex (ret (.int 6))]) (vSeq (vSet 3 (opv [.ex (ret (.int 1)), .ex (vCallM F_w_take 1 [(ret (.int 4))])] (o2 addD)))
    (vSeq (vSet 4 (vCallM F_w_built 1 [(vVar 3)]))
    (vFor (.nm 5) (itSeq (vCallM F_w_mixed 1 [(frz (vLst [(ret (.str "is_vector")), (ret (.str "primitive")), (ret (.str "upright")), (ret (.str "contrary"))]))])) (vIf (vNot (vTb (vCallM F_w_asked 1 [(vVar 5), (frz (vLst [(vVar 4)])), (vCall F_w_due [(vVar 5), (vVar 4)])]))) (vRet (ret (.bl false))) vNx)))))
    (vSeq (vIf (vOr (vNot (vTb (vCallM F_w_kinds 1 []))) (vNot (vTb (vCallM F_w_dots_told 1 [])))) (vRet (ret (.bl false))) vNx)
    (vRet (vAndV (vCallM F_w_sums_told 1 []) (vCallM F_w_lengths_told 1 []))))))
def F_p_law : FN := runF 1 6 b_p_law
end Vi

namespace Vi
open PySem PySem.Spec L2
section
variable {P : Program} {w : World} {K : PySem.W.Frag} {mg : Str → Option Value} {base : Heap}
theorem sc_w_mix : FnScope ["number", "turn", "prime", "mixed"] ["number", "turn"] (defScope st_w_mix) := ⟨rfl, rfl, rfl, by decide +kernel, rfl, by decide +kernel, by decide +kernel⟩
theorem ok_w_mix {y : Str} (T : Tx P K mg)  (F : ∃ fd, FunD K "_law_mix" "_law_mix" (defArgs st_w_mix) (defBody st_w_mix) (defScope st_w_mix) [] [] (He.ga K y) fd) (g : mg y = some (.ref (He.ga K y))) : FK P w K mg base 1 2 y ["number", "turn"] F_w_mix :=
  fk_mk (k := 0) F g sc_w_mix rfl (by decide) (fun _ _ _ _ _ _ us hl => match us, hl with | [_, _], _ => rfl) fun f cdv A outer s H E μ hr tk po =>
    have sc := sc_w_mix
    (s_cons (s_set sc.nd rfl (Or.inl rfl) v_int)
    (s_cons (s_set sc.nd rfl (Or.inl rfl) (v_bin op_modN o_mod (v_callT call_int1 o_int (by rfl) (T.f_int) (by decide +kernel) (v_cons (pv 0 (hv := Or.inl rfl)) v_nil)) (pv 2 (hv := Or.inl rfl))))
    (s_cons (s_set sc.nd rfl (Or.inl rfl) (v_bin op_modN o_mod (v_callT call_int1 o_int (by rfl) (T.f_int) (by decide +kernel) (v_cons (v_bin op_addA o_add (v_bin op_mulA o_mul (pv 3 (hv := Or.inl rfl)) v_int) (v_bin op_mulA o_mul (v_bin op_addA o_add (pv 1 (hv := Or.inl rfl)) v_int) v_int)) v_nil)) (pv 2 (hv := Or.inl rfl))))
    (s_cons (s_set sc.nd rfl (Or.inl rfl) (v_bin op_modN o_mod (v_callT call_int1 o_int (by rfl) (T.f_int) (by decide +kernel) (v_cons (v_bin op_addA o_add (v_bin op_addA o_add (v_bin op_mulA o_mul (pv 3 (hv := Or.inl rfl)) (pv 3 (hv := Or.inl rfl))) (v_bin op_mulA o_mul (pv 3 (hv := Or.inl rfl)) v_int)) v_int) v_nil)) (pv 2 (hv := Or.inl rfl))))
    (s_cons (s_set sc.nd rfl (Or.inl rfl) (v_bin op_modN o_mod (v_callT call_int1 o_int (by rfl) (T.f_int) (by decide +kernel) (v_cons (v_bin op_addA o_add (v_bin op_addA o_add (v_bin op_mulA o_mul (pv 3 (hv := Or.inl rfl)) (pv 3 (hv := Or.inl rfl))) (v_bin op_mulA o_mul (pv 1 (hv := Or.inl rfl)) v_int)) v_int) v_nil)) (pv 2 (hv := Or.inl rfl))))
    (s_one (s_ret (v_bin op_fdivA o_fdiv (pv 3 (hv := Or.inl rfl)) v_int))))))))

theorem sc_w_store : FnScope ["script", "cells", "seed", "cell"] ["script"] (defScope st_w_store) := ⟨rfl, rfl, rfl, by decide +kernel, rfl, by decide +kernel, by decide +kernel⟩
theorem ok_w_store {y : Str} (T : Tx P K mg) (h_w_mix : FK P w K mg base 1 2 "_law_mix" ["number", "turn"] F_w_mix) (F : ∃ fd, FunD K "_law_store" "_law_store" (defArgs st_w_store) (defBody st_w_store) (defScope st_w_store) [] [] (He.ga K y) fd) (g : mg y = some (.ref (He.ga K y))) : FKO P w K mg base 2 1 y ["script"] F_w_store :=
  fk_mkO (k := 1) F g sc_w_store rfl (by decide) (fun _ _ _ _ _ _ us hl => match us, hl with | [_], _ => rfl) fun f cdv A outer s H E μ hr tk po =>
    have sc := sc_w_store
    (s_cons (s_setLc (own := [("cell", 3)]) (show _ from by simp [tgIn]) rfl sc.nd rfl rfl (sw_true rfl rfl rfl (by decide +kernel)) (i_seq (v_frz (v_slO (pv 0 (hv := Or.inl rfl)) q_none (q_some v_int)))) (blkOk_by (by kernel_rfl)) (fun _ _ _ _ _ => (g_nm sc.nd rfl (Or.inl rfl))) (fun _ _ _ _ _ => t_yes) (fun _ _ _ _ _ => (v_callT call_int1 o_int (by rfl) (T.f_int) (by decide +kernel) (v_cons (pv 3 (hv := Or.inl rfl)) v_nil))))
    (s_cons (s_set sc.nd rfl (Or.inl rfl) v_int)
    (s_cons (s_for (po E) rfl (i_seq (v_var (pv 1 (hv := Or.inl rfl)))) (g_nm sc.nd rfl (Or.inl rfl)) (s_one (s_set sc.nd rfl (Or.inl rfl) (v_fk h_w_mix hr (by decide) (by rfl) tk (d_cons (v_bin op_addA o_add (pv 2 (hv := Or.inl rfl)) (v_bin op_modN o_mod (v_callT call_int1 o_int (by rfl) (T.f_int) (by decide +kernel) (v_cons (pv 3 (hv := Or.inl rfl)) v_nil)) v_int)) (d_cons (v_bin op_addA o_add v_int (v_callB call_len o_len (by rfl) (T.f_len) (by decide +kernel) (v_cons (pv 1 (hv := Or.inl rfl)) v_nil))) d_nil))))))
    (s_one (s_retO (v_lst (d_cons (v_var (pv 1 (hv := Or.inl rfl))) (d_cons v_int (d_cons v_int (d_cons v_int (d_cons v_int (d_cons (v_var (pv 2 (hv := Or.inl rfl))) d_nil))))))))))))

theorem sc_w_take : FnScope ["store", "limit", "turn", "found", "cell"] ["store", "limit"] (defScope st_w_take) := ⟨rfl, rfl, rfl, by decide +kernel, rfl, by decide +kernel, by decide +kernel⟩
theorem ok_w_take {y : Str} (T : Tx P K mg) (h_w_mix : FK P w K mg base 1 2 "_law_mix" ["number", "turn"] F_w_mix) (F : ∃ fd, FunD K "_law_take" "_law_take" (defArgs st_w_take) (defBody st_w_take) (defScope st_w_take) [] [] (He.ga K y) fd) (g : mg y = some (.ref (He.ga K y))) : FK P w K mg base 2 2 y ["store", "limit"] F_w_take :=
  fk_mk (k := 1) F g sc_w_take rfl (by decide) (fun _ _ _ _ _ _ us hl => match us, hl with | [_, _], _ => rfl) fun f cdv A outer s H E μ hr tk po =>
    have sc := sc_w_take
    (s_cons (s_if (v_tcmp op_lt o_cmpI.s2 (pv 1 (hv := Or.inl rfl)) v_int (nomark _)) (s_one (s_ret v_int)) s_nil)
    (s_cons (s_put (pv 0 (hv := Or.inl rfl)) v_int (v_bin op_addA o_add (v_ix ix_seq o_ix (pv 0 (hv := Or.inl rfl)) v_int (fun _ _ => rfl)) v_int))
    (s_cons (s_for (po E) rfl (i_rng1 (by rfl) (T.f_range) (v_cons v_int v_nil)) (g_nm sc.nd rfl (Or.inl rfl)) (s_cons (s_if (v_tcmp op_gt o_cmpI.s2 (v_ix ix_seq o_ix (pv 0 (hv := Or.inl rfl)) v_int (fun _ _ => rfl)) v_int (nomark _)) (s_cons (s_set sc.nd rfl (Or.inl rfl) (v_bin op_modN o_mod (v_callT call_int1 o_int (by rfl) (T.f_int) (by decide +kernel) (v_cons (v_ix ix_seq o_ix (pv 0 (hv := Or.inl rfl)) v_int (fun _ _ => rfl)) v_nil)) (pv 1 (hv := Or.inl rfl))))
    (s_cons (s_put (pv 0 (hv := Or.inl rfl)) v_int (v_bin op_fdivA o_fdiv (v_ix ix_seq o_ix (pv 0 (hv := Or.inl rfl)) v_int (fun _ _ => rfl)) (pv 1 (hv := Or.inl rfl))))
    (s_one (s_ret (v_var (pv 3 (hv := Or.inl rfl))))))) s_nil)
    (s_cons (s_if (v_tcmp op_ge o_cmpI.s2 (v_ix ix_seq o_ix (pv 0 (hv := Or.inl rfl)) v_int (fun _ _ => rfl)) (v_callB call_len o_len (by rfl) (T.f_len) (by decide +kernel) (v_cons (v_ix ix_seq o_ix (pv 0 (hv := Or.inl rfl)) v_int (fun _ _ => rfl)) v_nil)) (nomark _)) (s_one (s_ret (v_bin op_modN o_mod (v_callT call_int1 o_int (by rfl) (T.f_int) (by decide +kernel) (v_cons (v_fk h_w_mix hr (by decide) (by rfl) tk (d_cons (v_ix ix_seq o_ix (pv 0 (hv := Or.inl rfl)) v_int (fun _ _ => rfl)) (d_cons (v_ix ix_seq o_ix (pv 0 (hv := Or.inl rfl)) v_int (fun _ _ => rfl)) d_nil))) v_nil)) (pv 1 (hv := Or.inl rfl))))) s_nil)
    (s_cons (s_set sc.nd rfl (Or.inl rfl) (v_ix ix_seq o_ix (v_ix ix_seq o_ix (pv 0 (hv := Or.inl rfl)) v_int (fun _ _ => rfl)) (v_ix ix_seq o_ix (pv 0 (hv := Or.inl rfl)) v_int (fun _ _ => rfl)) (fun _ _ => rfl)))
    (s_one (s_if (v_tcmp op_ge o_cmpI.s2 (pv 4 (hv := Or.inl rfl)) (v_bin op_powA o_pow v_int v_int) (nomark _)) (s_cons (s_put (pv 0 (hv := Or.inl rfl)) v_int (v_bin op_addA o_add (v_ix ix_seq o_ix (pv 0 (hv := Or.inl rfl)) v_int (fun _ _ => rfl)) v_int))
    (s_one (s_put (pv 0 (hv := Or.inl rfl)) v_int (v_bin op_modN o_mod (v_callT call_int1 o_int (by rfl) (T.f_int) (by decide +kernel) (v_cons (pv 4 (hv := Or.inl rfl)) v_nil)) (v_bin op_powA o_pow (v_bin op_powA o_pow v_int v_int) v_int))))) (s_cons (s_put (pv 0 (hv := Or.inl rfl)) v_int (v_bin op_addA o_add (v_ix ix_seq o_ix (pv 0 (hv := Or.inl rfl)) v_int (fun _ _ => rfl)) v_int))
    (s_cons (s_if (v_tcmp op_gt o_cmpI.s2 (v_ix ix_seq o_ix (pv 0 (hv := Or.inl rfl)) v_int (fun _ _ => rfl)) v_int (nomark _)) (s_cons (s_put (pv 0 (hv := Or.inl rfl)) v_int (v_bin op_addA o_add (v_ix ix_seq o_ix (pv 0 (hv := Or.inl rfl)) v_int (fun _ _ => rfl)) v_int))
    (s_one (s_put (pv 0 (hv := Or.inl rfl)) v_int v_int))) s_nil)
    (s_one (s_ret (v_bin op_modN o_mod (v_callT call_int1 o_int (by rfl) (T.f_int) (by decide +kernel) (v_cons (v_fk h_w_mix hr (by decide) (by rfl) tk (d_cons (v_var (pv 4 (hv := Or.inl rfl))) (d_cons (v_ix ix_seq o_ix (pv 0 (hv := Or.inl rfl)) v_int (fun _ _ => rfl)) d_nil))) v_nil)) (pv 1 (hv := Or.inl rfl)))))))))))))
    (s_one (s_ret v_int)))))

theorem sc_w_small : FnScope ["store", "size", "found"] ["store", "size"] (defScope st_w_small) := ⟨rfl, rfl, rfl, by decide +kernel, rfl, by decide +kernel, by decide +kernel⟩
theorem ok_w_small {y : Str} (T : Tx P K mg) (h_w_take : FK P w K mg base 2 2 "_law_take" ["store", "limit"] F_w_take) (F : ∃ fd, FunD K "_law_small" "_law_small" (defArgs st_w_small) (defBody st_w_small) (defScope st_w_small) [] [] (He.ga K y) fd) (g : mg y = some (.ref (He.ga K y))) : FK P w K mg base 3 2 y ["store", "size"] F_w_small :=
  fk_mk (k := 2) F g sc_w_small rfl (by decide) (fun _ _ _ _ _ _ us hl => match us, hl with | [_, _], _ => rfl) fun f cdv A outer s H E μ hr tk po =>
    have sc := sc_w_small
    (s_cons (s_if (v_tcmp op_eq o_eq.s2 (v_fkM h_w_take hr (by decide) (by rfl) tk (m_cons (pv 0 (hv := Or.inl rfl)) (d_cons v_int d_nil))) v_int (nomark _)) (s_one (s_set sc.nd rfl (Or.inl rfl) (v_ix ix_seq o_ix (v_frz (v_lst (d_cons v_int (d_cons v_int (d_cons (v_un un_neg o_neg v_int) (d_cons (v_var (pv 1 (hv := Or.inl rfl))) (d_cons (v_un un_neg o_neg (pv 1 (hv := Or.inl rfl))) d_nil))))))) (v_fkM h_w_take hr (by decide) (by rfl) tk (m_cons (pv 0 (hv := Or.inl rfl)) (d_cons v_int d_nil))) (fun _ _ => rfl)))) (s_one (s_set sc.nd rfl (Or.inl rfl) (v_bin op_sub o_sub (v_fkM h_w_take hr (by decide) (by rfl) tk (m_cons (pv 0 (hv := Or.inl rfl)) (d_cons (v_bin op_addA o_add (v_bin op_mulA o_mul v_int (pv 1 (hv := Or.inl rfl))) v_int) d_nil))) (pv 1 (hv := Or.inl rfl))))))
    (s_one (s_ret (v_callB (call_max2 rfl) o_two (by rfl) (T.f_max) (by decide +kernel) (v_cons (v_un un_neg o_neg (pv 1 (hv := Or.inl rfl))) (v_cons (v_callB (call_min2 rfl) o_two (by rfl) (T.f_min) (by decide +kernel) (v_cons (pv 1 (hv := Or.inl rfl)) (v_cons (pv 2 (hv := Or.inl rfl)) v_nil))) v_nil))))))

theorem sc_w_pick : FnScope ["store", "items"] ["store", "items"] (defScope st_w_pick) := ⟨rfl, rfl, rfl, by decide +kernel, rfl, by decide +kernel, by decide +kernel⟩
theorem ok_w_pick {y : Str} (T : Tx P K mg) (h_w_take : FK P w K mg base 2 2 "_law_take" ["store", "limit"] F_w_take) (F : ∃ fd, FunD K "_law_pick" "_law_pick" (defArgs st_w_pick) (defBody st_w_pick) (defScope st_w_pick) [] [] (He.ga K y) fd) (g : mg y = some (.ref (He.ga K y))) : FK P w K mg base 3 2 y ["store", "items"] F_w_pick :=
  fk_mk (k := 2) F g sc_w_pick rfl (by decide) (fun _ _ _ _ _ _ us hl => match us, hl with | [_, _], _ => rfl) fun f cdv A outer s H E μ hr tk po =>
    have sc := sc_w_pick
    (s_one (s_ret (v_ix ix_seq o_ix (pv 1 (hv := Or.inl rfl)) (v_fkM h_w_take hr (by decide) (by rfl) tk (m_cons (pv 0 (hv := Or.inl rfl)) (d_cons (v_callB call_len o_len (by rfl) (T.f_len) (by decide +kernel) (v_cons (pv 1 (hv := Or.inl rfl)) v_nil)) d_nil))) (fun _ _ => rfl))))

theorem sc_w_row : FnScope ["store", "d", "size", "choice", "row", "number", "place"] ["store", "d", "size"] (defScope st_w_row) := ⟨rfl, rfl, rfl, by decide +kernel, rfl, by decide +kernel, by decide +kernel⟩
theorem ok_w_row {y : Str} (T : Tx P K mg) (h_w_take : FK P w K mg base 2 2 "_law_take" ["store", "limit"] F_w_take) (h_w_small : FK P w K mg base 3 2 "_law_small" ["store", "size"] F_w_small) (h_w_pick : FK P w K mg base 3 2 "_law_pick" ["store", "items"] F_w_pick) (F : ∃ fd, FunD K "_law_row" "_law_row" (defArgs st_w_row) (defBody st_w_row) (defScope st_w_row) [] [] (He.ga K y) fd) (g : mg y = some (.ref (He.ga K y))) : FK P w K mg base 4 3 y ["store", "d", "size"] F_w_row :=
  fk_mk (k := 3) F g sc_w_row rfl (by decide) (fun _ _ _ _ _ _ us hl => match us, hl with | [_, _, _], _ => rfl) fun f cdv A outer s H E μ hr tk po =>
    have sc := sc_w_row
    (s_cons (s_set sc.nd rfl (Or.inl rfl) (v_fkM h_w_take hr (by decide) (by rfl) tk (m_cons (pv 0 (hv := Or.inr (Or.inl rfl))) (d_cons v_int d_nil))))
    (s_cons (s_setLc (own := [("place", 6)]) (show _ from by simp [tgIn]) rfl sc.nd rfl rfl (sw_true rfl rfl rfl (by decide +kernel)) (i_rng1 (by rfl) (T.f_range) (v_cons (pv 1 (hv := Or.inl rfl)) v_nil)) (blkOk_by (by kernel_rfl)) (fun _ _ _ _ _ => (g_nm sc.nd rfl (Or.inl rfl))) (fun _ _ _ _ _ => t_yes) (fun _ _ _ _ _ => (v_fkM h_w_small hr (by decide) (by rfl) takes0 (m_cons (pv 0 (hv := Or.inr (Or.inl rfl))) (d_cons (v_var (pv 2 (hv := Or.inr (Or.inl rfl)))) d_nil)))))
    (s_cons (s_if (v_tcmp op_eq o_eq.s2 (pv 3 (hv := Or.inl rfl)) v_int (nomark _)) (s_one (s_setO sc.nd rfl (Or.inl rfl) (v_binO op_rep o_mulO (v_frz (v_lst (d_cons v_int d_nil))) (pv 1 (hv := Or.inl rfl))))) s_nil)
    (s_cons (s_if (v_tcmp op_eq o_eq.s2 (pv 3 (hv := Or.inl rfl)) v_int (nomark _)) (s_cons (s_setO sc.nd rfl (Or.inl rfl) (v_binO op_rep o_mulO (v_frz (v_lst (d_cons v_int d_nil))) (pv 1 (hv := Or.inl rfl))))
    (s_one (s_put (pv 4 (hv := Or.inl rfl)) (v_fkM h_w_take hr (by decide) (by rfl) tk (m_cons (pv 0 (hv := Or.inr (Or.inl rfl))) (d_cons (v_var (pv 1 (hv := Or.inl rfl))) d_nil))) (v_fkM h_w_pick hr (by decide) (by rfl) tk (m_cons (pv 0 (hv := Or.inr (Or.inl rfl))) (d_cons (v_frz (v_lst (d_cons v_int (d_cons (v_un un_neg o_neg v_int) (d_cons (v_var (pv 2 (hv := Or.inr (Or.inl rfl)))) (d_cons (v_un un_neg o_neg (pv 2 (hv := Or.inr (Or.inl rfl)))) d_nil)))))) d_nil)))))) s_nil)
    (s_cons (s_if (v_tcmp op_eq o_eq.s2 (pv 3 (hv := Or.inl rfl)) v_int (nomark _)) (s_cons (s_set sc.nd rfl (Or.inl rfl) (v_ix ix_seq o_ix (pv 4 (hv := Or.inl rfl)) v_int (fun _ _ => rfl)))
    (s_one (s_setO sc.nd rfl (Or.inl rfl) (v_binO op_rep o_mulO (v_frz (v_lst (d_cons (v_var (pv 5 (hv := Or.inl rfl))) d_nil))) (pv 1 (hv := Or.inl rfl)))))) s_nil)
    (s_one (s_ret (v_callT call_tuple_of o_tuple (by rfl) (T.f_tuple) (by decide +kernel) (v_cons (pv 4 (hv := Or.inl rfl)) v_nil)))))))))

theorem sc_w_great_vector : FnScope ["store", "d", "beyond", "row", "place", "number", "unit", "other"] ["store", "d", "beyond"] (defScope st_w_great_vector) := ⟨rfl, rfl, rfl, by decide +kernel, rfl, by decide +kernel, by decide +kernel⟩
theorem ok_w_great_vector {y : Str} (T : Tx P K mg) (h_w_take : FK P w K mg base 2 2 "_law_take" ["store", "limit"] F_w_take) (h_w_pick : FK P w K mg base 3 2 "_law_pick" ["store", "items"] F_w_pick) (F : ∃ fd, FunD K "_law_great_vector" "_law_great_vector" (defArgs st_w_great_vector) (defBody st_w_great_vector) (defScope st_w_great_vector) [] [] (He.ga K y) fd) (g : mg y = some (.ref (He.ga K y))) : FK P w K mg base 4 3 y ["store", "d", "beyond"] F_w_great_vector :=
  fk_mk (k := 3) F g sc_w_great_vector rfl (by decide) (fun _ _ _ _ _ _ us hl => match us, hl with | [_, _, _], _ => rfl) fun f cdv A outer s H E μ hr tk po =>
    have sc := sc_w_great_vector
    (s_cons (s_setO sc.nd rfl (Or.inl rfl) (v_lst d_nil))
    (s_cons (s_for (po E) rfl (i_rng1 (by rfl) (T.f_range) (v_cons (pv 1 (hv := Or.inl rfl)) v_nil)) (g_nm sc.nd rfl (Or.inl rfl)) (s_cons (s_set sc.nd rfl (Or.inl rfl) (v_bin op_sub o_sub (v_fkM h_w_take hr (by decide) (by rfl) tk (m_cons (pv 0 (hv := Or.inl rfl)) (d_cons (v_bin op_addA o_add (v_bin op_mulA o_mul v_int (v_bin op_powA o_pow v_int v_int)) v_int) d_nil))) (v_bin op_powA o_pow v_int v_int)))
    (s_cons (s_if (v_tcmp op_eq o_eq.s2 (v_fkM h_w_take hr (by decide) (by rfl) tk (m_cons (pv 0 (hv := Or.inl rfl)) (d_cons v_int d_nil))) v_int (nomark _)) (s_one (s_set sc.nd rfl (Or.inl rfl) (v_fkM h_w_pick hr (by decide) (by rfl) tk (m_cons (pv 0 (hv := Or.inl rfl)) (d_cons (v_frz (v_lst (d_cons (v_bin op_powA o_pow v_int v_int) (d_cons (v_un un_neg o_neg (v_bin op_powA o_pow v_int v_int)) d_nil)))) d_nil))))) s_nil)
    (s_one (s_app (pv 3 (hv := Or.inl rfl)) (v_var (pv 5 (hv := Or.inl rfl))))))))
    (s_cons (s_set sc.nd rfl (Or.inl rfl) (v_fkM h_w_take hr (by decide) (by rfl) tk (m_cons (pv 0 (hv := Or.inl rfl)) (d_cons (v_var (pv 1 (hv := Or.inl rfl))) d_nil))))
    (s_cons (s_put (pv 3 (hv := Or.inl rfl)) (v_var (pv 6 (hv := Or.inl rfl))) (v_fkM h_w_pick hr (by decide) (by rfl) tk (m_cons (pv 0 (hv := Or.inl rfl)) (d_cons (v_frz (v_lst (d_cons v_int (d_cons (v_un un_neg o_neg v_int) d_nil)))) d_nil))))
    (s_cons (s_if (v_tt (pv 2 (hv := Or.inl rfl))) (s_cons (s_set sc.nd rfl (Or.inl rfl) (v_bin op_modN o_mod (v_callT call_int1 o_int (by rfl) (T.f_int) (by decide +kernel) (v_cons (v_bin op_addA o_add (v_bin op_addA o_add (pv 6 (hv := Or.inl rfl)) v_int) (v_fkM h_w_take hr (by decide) (by rfl) tk (m_cons (pv 0 (hv := Or.inl rfl)) (d_cons (v_bin op_sub o_sub (pv 1 (hv := Or.inl rfl)) v_int) d_nil)))) v_nil)) (pv 1 (hv := Or.inl rfl))))
    (s_one (s_put (pv 3 (hv := Or.inl rfl)) (v_var (pv 7 (hv := Or.inl rfl))) (v_bin op_mulA o_mul (v_fkM h_w_pick hr (by decide) (by rfl) tk (m_cons (pv 0 (hv := Or.inl rfl)) (d_cons (v_frz (v_lst (d_cons v_int (d_cons (v_un un_neg o_neg v_int) d_nil)))) d_nil))) (v_bin op_addA o_add (v_bin op_addA o_add (v_bin op_powA o_pow v_int v_int) v_int) (v_fkM h_w_take hr (by decide) (by rfl) tk (m_cons (pv 0 (hv := Or.inl rfl)) (d_cons v_int d_nil)))))))) s_nil)
    (s_one (s_ret (v_callT call_tuple_of o_tuple (by rfl) (T.f_tuple) (by decide +kernel) (v_cons (pv 3 (hv := Or.inl rfl)) v_nil)))))))))

theorem sc_w_gcd : FnScope ["a", "b", "left", "right", "turn"] ["a", "b"] (defScope st_w_gcd) := ⟨rfl, rfl, rfl, by decide +kernel, rfl, by decide +kernel, by decide +kernel⟩
theorem ok_w_gcd {y : Str} (T : Tx P K mg)  (F : ∃ fd, FunD K "_law_gcd" "_law_gcd" (defArgs st_w_gcd) (defBody st_w_gcd) (defScope st_w_gcd) [] [] (He.ga K y) fd) (g : mg y = some (.ref (He.ga K y))) : FK P w K mg base 1 2 y ["a", "b"] F_w_gcd :=
  fk_mk (k := 0) F g sc_w_gcd rfl (by decide) (fun _ _ _ _ _ _ us hl => match us, hl with | [_, _], _ => rfl) fun f cdv A outer s H E μ hr tk po =>
    have sc := sc_w_gcd
    (s_cons (s_set sc.nd rfl (Or.inl rfl) (v_callB call_abs o_abs (by rfl) (T.f_abs) (by decide +kernel) (v_cons (pv 0 (hv := Or.inl rfl)) v_nil)))
    (s_cons (s_set sc.nd rfl (Or.inl rfl) (v_callB call_abs o_abs (by rfl) (T.f_abs) (by decide +kernel) (v_cons (pv 1 (hv := Or.inl rfl)) v_nil)))
    (s_cons (s_for (po E) rfl (i_rng1 (by rfl) (T.f_range) (v_cons v_int v_nil)) (g_nm sc.nd rfl (Or.inl rfl)) (s_cons (s_if (v_tcmp op_eq o_eq.s2 (pv 3 (hv := Or.inl rfl)) v_int (nomark _)) (s_one (s_ret (v_var (pv 2 (hv := Or.inl rfl))))) s_nil)
    (s_one (s_par rfl sc.nd rfl rfl (by decide) rfl rfl (d_cons (v_var (pv 3 (hv := Or.inl rfl))) (d_cons (v_bin op_modN o_mod (v_callT call_int1 o_int (by rfl) (T.f_int) (by decide +kernel) (v_cons (pv 2 (hv := Or.inl rfl)) v_nil)) (pv 3 (hv := Or.inl rfl))) d_nil)) (by rfl)))))
    (s_one (s_ret (v_var (pv 2 (hv := Or.inl rfl))))))))

theorem sc_w_content : FnScope ["row", "found", "number"] ["row"] (defScope st_w_content) := ⟨rfl, rfl, rfl, by decide +kernel, rfl, by decide +kernel, by decide +kernel⟩
theorem ok_w_content {y : Str} (T : Tx P K mg) (h_w_gcd : FK P w K mg base 1 2 "_law_gcd" ["a", "b"] F_w_gcd) (F : ∃ fd, FunD K "_law_content" "_law_content" (defArgs st_w_content) (defBody st_w_content) (defScope st_w_content) [] [] (He.ga K y) fd) (g : mg y = some (.ref (He.ga K y))) : FK P w K mg base 2 1 y ["row"] F_w_content :=
  fk_mk (k := 1) F g sc_w_content rfl (by decide) (fun _ _ _ _ _ _ us hl => match us, hl with | [_], _ => rfl) fun f cdv A outer s H E μ hr tk po =>
    have sc := sc_w_content
    (s_cons (s_set sc.nd rfl (Or.inl rfl) v_int)
    (s_cons (s_for (po E) rfl (i_seq (v_var (pv 0 (hv := Or.inl rfl)))) (g_nm sc.nd rfl (Or.inl rfl)) (s_one (s_set sc.nd rfl (Or.inl rfl) (v_fk h_w_gcd hr (by decide) (by rfl) tk (d_cons (v_var (pv 1 (hv := Or.inl rfl))) (d_cons (v_var (pv 2 (hv := Or.inl rfl))) d_nil))))))
    (s_one (s_ret (v_var (pv 1 (hv := Or.inl rfl)))))))

theorem sc_w_prim : FnScope ["row", "part", "number"] ["row"] (defScope st_w_prim) := ⟨rfl, rfl, rfl, by decide +kernel, rfl, by decide +kernel, by decide +kernel⟩
theorem ok_w_prim {y : Str} (T : Tx P K mg) (h_w_content : FK P w K mg base 2 1 "_law_content" ["row"] F_w_content) (F : ∃ fd, FunD K "_law_prim" "_law_prim" (defArgs st_w_prim) (defBody st_w_prim) (defScope st_w_prim) [] [] (He.ga K y) fd) (g : mg y = some (.ref (He.ga K y))) : FK P w K mg base 3 1 y ["row"] F_w_prim :=
  fk_mk (k := 2) F g sc_w_prim rfl (by decide) (fun _ _ _ _ _ _ us hl => match us, hl with | [_], _ => rfl) fun f cdv A outer s H E μ hr tk po =>
    have sc := sc_w_prim
    (s_cons (s_set sc.nd rfl (Or.inr rfl) (v_fk h_w_content hr (by decide) (by rfl) tk (d_cons (v_var (pv 0 (hv := Or.inl rfl))) d_nil)))
    (s_cons (s_if (v_tcmp op_eq o_eq.s2 (pv 1 (hv := Or.inr (Or.inl rfl))) v_int (nomark _)) (s_one (s_ret (v_callT call_tuple_of o_tuple (by rfl) (T.f_tuple) (by decide +kernel) (v_cons (pv 0 (hv := Or.inl rfl)) v_nil)))) s_nil)
    (s_one (s_ret (v_callT call_tuple_of o_tuple (by rfl) (T.f_tuple) (by decide +kernel) (v_cons (v_frz (v_lc (own := [("number", 2)]) (show _ from by simp [tgIn]) rfl sc.nd (i_seq (v_var (pv 0 (hv := Or.inl rfl)))) (blkOk_by (by kernel_rfl)) (fun _ _ _ _ _ => (g_nm sc.nd rfl (Or.inl rfl))) (fun _ _ _ _ _ => t_yes) (fun _ _ _ _ _ => (v_bin op_fdivA o_fdiv (pv 2 (hv := Or.inl rfl)) (pv 1 (hv := Or.inr (Or.inl rfl))))))) v_nil))))))

theorem sc_w_vector : FnScope ["store", "d", "size", "row"] ["store", "d", "size"] (defScope st_w_vector) := ⟨rfl, rfl, rfl, by decide +kernel, rfl, by decide +kernel, by decide +kernel⟩
theorem ok_w_vector {y : Str} (T : Tx P K mg) (h_w_row : FK P w K mg base 4 3 "_law_row" ["store", "d", "size"] F_w_row) (h_w_content : FK P w K mg base 2 1 "_law_content" ["row"] F_w_content) (h_w_pick : FK P w K mg base 3 2 "_law_pick" ["store", "items"] F_w_pick) (h_w_take : FK P w K mg base 2 2 "_law_take" ["store", "limit"] F_w_take) (h_w_prim : FK P w K mg base 3 1 "_law_prim" ["row"] F_w_prim) (F : ∃ fd, FunD K "_law_vector" "_law_vector" (defArgs st_w_vector) (defBody st_w_vector) (defScope st_w_vector) [] [] (He.ga K y) fd) (g : mg y = some (.ref (He.ga K y))) : FK P w K mg base 5 3 y ["store", "d", "size"] F_w_vector :=
  fk_mk (k := 4) F g sc_w_vector rfl (by decide) (fun _ _ _ _ _ _ us hl => match us, hl with | [_, _, _], _ => rfl) fun f cdv A outer s H E μ hr tk po =>
    have sc := sc_w_vector
    (s_cons (s_setO sc.nd rfl (Or.inl rfl) (v_callTO call_list_of o_list (by rfl) (T.f_list) (by decide +kernel) (v_cons (v_fkM h_w_row hr (by decide) (by rfl) tk (m_cons (pv 0 (hv := Or.inl rfl)) (d_cons (v_var (pv 1 (hv := Or.inl rfl))) (d_cons (v_var (pv 2 (hv := Or.inl rfl))) d_nil)))) v_nil)))
    (s_cons (s_if (v_tcmp op_eq o_eq.s2 (v_fkL h_w_content hr (by decide) (by rfl) tk (v_cons (pv 3 (hv := Or.inl rfl)) v_nil)) v_int (nomark _)) (s_one (s_put (pv 3 (hv := Or.inl rfl)) (v_fkM h_w_take hr (by decide) (by rfl) tk (m_cons (pv 0 (hv := Or.inl rfl)) (d_cons (v_var (pv 1 (hv := Or.inl rfl))) d_nil))) (v_fkM h_w_pick hr (by decide) (by rfl) tk (m_cons (pv 0 (hv := Or.inl rfl)) (d_cons (v_frz (v_lst (d_cons v_int (d_cons (v_un un_neg o_neg v_int) d_nil)))) d_nil))))) s_nil)
    (s_one (s_ret (v_fk h_w_prim hr (by decide) (by rfl) tk (d_cons (v_var (pv 3 (hv := Or.inl rfl))) d_nil))))))

theorem sc_w_number : FnScope ["store", "choice", "edges", "great", "turn"] ["store"] (defScope st_w_number) := ⟨rfl, rfl, rfl, by decide +kernel, rfl, by decide +kernel, by decide +kernel⟩
theorem ok_w_number {y : Str} (T : Tx P K mg) (h_w_take : FK P w K mg base 2 2 "_law_take" ["store", "limit"] F_w_take) (h_w_small : FK P w K mg base 3 2 "_law_small" ["store", "size"] F_w_small) (h_w_pick : FK P w K mg base 3 2 "_law_pick" ["store", "items"] F_w_pick) (F : ∃ fd, FunD K "_law_number" "_law_number" (defArgs st_w_number) (defBody st_w_number) (defScope st_w_number) [] [] (He.ga K y) fd) (g : mg y = some (.ref (He.ga K y))) : FK P w K mg base 4 1 y ["store"] F_w_number :=
  fk_mk (k := 3) F g sc_w_number rfl (by decide) (fun _ _ _ _ _ _ us hl => match us, hl with | [_], _ => rfl) fun f cdv A outer s H E μ hr tk po =>
    have sc := sc_w_number
    (s_cons (s_set sc.nd rfl (Or.inl rfl) (v_fkM h_w_take hr (by decide) (by rfl) tk (m_cons (pv 0 (hv := Or.inl rfl)) (d_cons v_int d_nil))))
    (s_cons (s_if (v_tcmp op_lt o_cmpI.s2 (pv 1 (hv := Or.inl rfl)) v_int (nomark _)) (s_one (s_ret (v_fkM h_w_small hr (by decide) (by rfl) tk (m_cons (pv 0 (hv := Or.inl rfl)) (d_cons v_int d_nil))))) s_nil)
    (s_cons (s_if (v_tcmp op_eq o_eq.s2 (pv 1 (hv := Or.inl rfl)) v_int (nomark _)) (s_one (s_ret (v_fkM h_w_small hr (by decide) (by rfl) tk (m_cons (pv 0 (hv := Or.inl rfl)) (d_cons v_int d_nil))))) s_nil)
    (s_cons (s_if (v_tcmp op_eq o_eq.s2 (pv 1 (hv := Or.inl rfl)) v_int (nomark _)) (s_cons (s_set sc.nd rfl (Or.inl rfl) (v_frz (v_lst (d_cons (v_bin op_powA o_pow v_int v_int) (d_cons (v_bin op_sub o_sub (v_un un_neg o_neg (v_bin op_powA o_pow v_int v_int)) v_int) (d_cons (v_bin op_powA o_pow v_int v_int) (d_cons (v_bin op_addA o_add (v_bin op_powA o_pow v_int v_int) v_int) (d_cons (v_un un_neg o_neg (v_bin op_powA o_pow v_int v_int)) (d_cons (v_bin op_powA o_pow v_int v_int) (d_cons (v_bin op_sub o_sub (v_bin op_powA o_pow v_int v_int) v_int) (d_cons (v_bin op_sub o_sub v_int (v_bin op_powA o_pow v_int v_int)) d_nil)))))))))))
    (s_one (s_ret (v_fkM h_w_pick hr (by decide) (by rfl) tk (m_cons (pv 0 (hv := Or.inl rfl)) (d_cons (v_var (pv 2 (hv := Or.inl rfl))) d_nil)))))) s_nil)
    (s_cons (s_set sc.nd rfl (Or.inl rfl) v_int)
    (s_cons (s_for (po E) rfl (i_rng1 (by rfl) (T.f_range) (v_cons v_int v_nil)) (g_nm sc.nd rfl (Or.inl rfl)) (s_one (s_set sc.nd rfl (Or.inl rfl) (v_bin op_addA o_add (v_bin op_mulA o_mul (pv 3 (hv := Or.inl rfl)) (v_bin op_powA o_pow v_int v_int)) (v_fkM h_w_take hr (by decide) (by rfl) tk (m_cons (pv 0 (hv := Or.inl rfl)) (d_cons (v_bin op_powA o_pow v_int v_int) d_nil)))))))
    (s_cons (s_if (v_tcmp op_eq o_eq.s2 (pv 1 (hv := Or.inl rfl)) v_int (nomark _)) (s_one (s_set sc.nd rfl (Or.inl rfl) (v_bin op_modN o_mod (v_callT call_int1 o_int (by rfl) (T.f_int) (by decide +kernel) (v_cons (pv 3 (hv := Or.inl rfl)) v_nil)) (v_bin op_powA o_pow v_int v_int)))) s_nil)
    (s_cons (s_if (v_tcmp op_eq o_eq.s2 (v_fkM h_w_take hr (by decide) (by rfl) tk (m_cons (pv 0 (hv := Or.inl rfl)) (d_cons v_int d_nil))) v_int (nomark _)) (s_one (s_ret (v_var (pv 3 (hv := Or.inl rfl))))) s_nil)
    (s_one (s_ret (v_un un_neg o_neg (pv 3 (hv := Or.inl rfl)))))))))))))

theorem sc_w_built : FnScope ["store", "d", "choice", "times", "place", "number"] ["store", "d"] (defScope st_w_built) := ⟨rfl, rfl, rfl, by decide +kernel, rfl, by decide +kernel, by decide +kernel⟩
theorem ok_w_built {y : Str} (T : Tx P K mg) (h_w_take : FK P w K mg base 2 2 "_law_take" ["store", "limit"] F_w_take) (h_w_row : FK P w K mg base 4 3 "_law_row" ["store", "d", "size"] F_w_row) (h_w_pick : FK P w K mg base 3 2 "_law_pick" ["store", "items"] F_w_pick) (h_w_vector : FK P w K mg base 5 3 "_law_vector" ["store", "d", "size"] F_w_vector) (h_w_great_vector : FK P w K mg base 4 3 "_law_great_vector" ["store", "d", "beyond"] F_w_great_vector) (h_w_number : FK P w K mg base 4 1 "_law_number" ["store"] F_w_number) (F : ∃ fd, FunD K "_law_built" "_law_built" (defArgs st_w_built) (defBody st_w_built) (defScope st_w_built) [] [] (He.ga K y) fd) (g : mg y = some (.ref (He.ga K y))) : FK P w K mg base 6 2 y ["store", "d"] F_w_built :=
  fk_mk (k := 5) F g sc_w_built rfl (by decide) (fun _ _ _ _ _ _ us hl => match us, hl with | [_, _], _ => rfl) fun f cdv A outer s H E μ hr tk po =>
    have sc := sc_w_built
    (s_cons (s_set sc.nd rfl (Or.inl rfl) (v_fkM h_w_take hr (by decide) (by rfl) tk (m_cons (pv 0 (hv := Or.inr (Or.inl rfl))) (d_cons v_int d_nil))))
    (s_cons (s_if (v_tcmp op_lt o_cmpI.s2 (pv 2 (hv := Or.inl rfl)) v_int (nomark _)) (s_one (s_ret (v_fkM h_w_row hr (by decide) (by rfl) tk (m_cons (pv 0 (hv := Or.inr (Or.inl rfl))) (d_cons (v_var (pv 1 (hv := Or.inl rfl))) (d_cons v_int d_nil)))))) s_nil)
    (s_cons (s_if (v_tcmp op_eq o_eq.s2 (pv 2 (hv := Or.inl rfl)) v_int (nomark _)) (s_cons (s_set sc.nd rfl (Or.inr rfl) (v_fkM h_w_pick hr (by decide) (by rfl) tk (m_cons (pv 0 (hv := Or.inr (Or.inl rfl))) (d_cons (v_frz (v_lst (d_cons v_int (d_cons v_int (d_cons v_int (d_cons v_int (d_cons (v_bin op_powA o_pow v_int v_int) (d_cons (v_bin op_addA o_add (v_bin op_powA o_pow v_int v_int) v_int) (d_cons (v_bin op_powA o_pow v_int v_int) d_nil))))))))) d_nil))))
    (s_one (s_ret (v_callT call_tuple_of o_tuple (by rfl) (T.f_tuple) (by decide +kernel) (v_cons (v_frz (v_lc (own := [("number", 5)]) (show _ from by simp [tgIn]) rfl sc.nd (i_seq (v_fkM h_w_vector hr (by decide) (by rfl) tk (m_cons (pv 0 (hv := Or.inr (Or.inl rfl))) (d_cons (v_var (pv 1 (hv := Or.inl rfl))) (d_cons v_int d_nil))))) (blkOk_by (by kernel_rfl)) (fun _ _ _ _ _ => (g_nm sc.nd rfl (Or.inl rfl))) (fun _ _ _ _ _ => t_yes) (fun _ _ _ _ _ => (v_bin op_mulA o_mul (pv 3 (hv := Or.inr (Or.inl rfl))) (pv 5 (hv := Or.inl rfl)))))) v_nil))))) s_nil)
    (s_cons (s_if (v_tcmp op_eq o_eq.s2 (pv 2 (hv := Or.inl rfl)) v_int (nomark _)) (s_one (s_ret (v_fkM h_w_great_vector hr (by decide) (by rfl) tk (m_cons (pv 0 (hv := Or.inr (Or.inl rfl))) (d_cons (v_var (pv 1 (hv := Or.inl rfl))) (d_cons v_bl d_nil)))))) s_nil)
    (s_cons (s_if (PW.pt (v_and (v_tcmp op_eq o_eq.s2 (pv 2 (hv := Or.inl rfl)) v_int (nomark _)) (v_and1 (v_tcmp op_gt o_cmpI.s2 (pv 1 (hv := Or.inl rfl)) v_int (nomark _))))) (s_one (s_ret (v_fkM h_w_great_vector hr (by decide) (by rfl) tk (m_cons (pv 0 (hv := Or.inr (Or.inl rfl))) (d_cons (v_var (pv 1 (hv := Or.inl rfl))) (d_cons v_bl d_nil)))))) s_nil)
    (s_cons (s_if (v_tcmp op_eq o_eq.s2 (pv 2 (hv := Or.inl rfl)) v_int (nomark _)) (s_cons (s_set sc.nd rfl (Or.inr rfl) (v_fkM h_w_pick hr (by decide) (by rfl) tk (m_cons (pv 0 (hv := Or.inr (Or.inl rfl))) (d_cons (v_frz (v_lst (d_cons v_int (d_cons v_int (d_cons (v_bin op_powA o_pow v_int v_int) (d_cons (v_bin op_addA o_add (v_bin op_powA o_pow v_int v_int) v_int) d_nil)))))) d_nil))))
    (s_one (s_ret (v_callT call_tuple_of o_tuple (by rfl) (T.f_tuple) (by decide +kernel) (v_cons (v_frz (v_lc (own := [("number", 5)]) (show _ from by simp [tgIn]) rfl sc.nd (i_seq (v_fkM h_w_great_vector hr (by decide) (by rfl) tk (m_cons (pv 0 (hv := Or.inr (Or.inl rfl))) (d_cons (v_var (pv 1 (hv := Or.inl rfl))) (d_cons v_bl d_nil))))) (blkOk_by (by kernel_rfl)) (fun _ _ _ _ _ => (g_nm sc.nd rfl (Or.inl rfl))) (fun _ _ _ _ _ => t_yes) (fun _ _ _ _ _ => (v_bin op_mulA o_mul (pv 3 (hv := Or.inr (Or.inl rfl))) (pv 5 (hv := Or.inl rfl)))))) v_nil))))) s_nil)
    (s_cons (s_if (v_tcmp op_eq o_eq.s2 (pv 2 (hv := Or.inl rfl)) v_int (nomark _)) (s_one (s_ret (v_fkM h_w_vector hr (by decide) (by rfl) tk (m_cons (pv 0 (hv := Or.inr (Or.inl rfl))) (d_cons (v_var (pv 1 (hv := Or.inl rfl))) (d_cons v_int d_nil)))))) s_nil)
    (s_one (s_ret (v_callT call_tuple_of o_tuple (by rfl) (T.f_tuple) (by decide +kernel) (v_cons (v_frz (v_lc (own := [("place", 4)]) (show _ from by simp [tgIn]) rfl sc.nd (i_rng1 (by rfl) (T.f_range) (v_cons (pv 1 (hv := Or.inl rfl)) v_nil)) (blkOk_by (by kernel_rfl)) (fun _ _ _ _ _ => (g_nm sc.nd rfl (Or.inl rfl))) (fun _ _ _ _ _ => t_yes) (fun _ _ _ _ _ => (v_fkM h_w_number hr (by decide) (by rfl) takes0 (m_cons (pv 0 (hv := Or.inr (Or.inl rfl))) d_nil))))) v_nil)))))))))))

theorem sc_w_mixed : FnScope ["store", "items", "mixed", "place", "other"] ["store", "items"] (defScope st_w_mixed) := ⟨rfl, rfl, rfl, by decide +kernel, rfl, by decide +kernel, by decide +kernel⟩
theorem ok_w_mixed {y : Str} (T : Tx P K mg) (h_w_take : FK P w K mg base 2 2 "_law_take" ["store", "limit"] F_w_take) (F : ∃ fd, FunD K "_law_mixed" "_law_mixed" (defArgs st_w_mixed) (defBody st_w_mixed) (defScope st_w_mixed) [] [] (He.ga K y) fd) (g : mg y = some (.ref (He.ga K y))) : FK P w K mg base 3 2 y ["store", "items"] F_w_mixed :=
  fk_mk (k := 2) F g sc_w_mixed rfl (by decide) (fun _ _ _ _ _ _ us hl => match us, hl with | [_, _], _ => rfl) fun f cdv A outer s H E μ hr tk po =>
    have sc := sc_w_mixed
    (s_cons (s_setO sc.nd rfl (Or.inl rfl) (v_callTO call_list_of o_list (by rfl) (T.f_list) (by decide +kernel) (v_cons (pv 1 (hv := Or.inl rfl)) v_nil)))
    (s_cons (s_for (po E) rfl (i_rng3 (by rfl) (T.f_range) (v_cons (v_bin op_sub o_sub (v_callB call_len o_len (by rfl) (T.f_len) (by decide +kernel) (v_cons (pv 2 (hv := Or.inl rfl)) v_nil)) v_int) (v_cons v_int (v_cons (v_un un_neg o_neg v_int) v_nil)))) (g_nm sc.nd rfl (Or.inl rfl)) (s_cons (s_set sc.nd rfl (Or.inl rfl) (v_fkM h_w_take hr (by decide) (by rfl) tk (m_cons (pv 0 (hv := Or.inl rfl)) (d_cons (v_bin op_addA o_add (pv 3 (hv := Or.inl rfl)) v_int) d_nil))))
    (s_one (s_swap (pv 2 (hv := Or.inl rfl)) (pv 2 (hv := Or.inl rfl)) (v_var (pv 3 (hv := Or.inl rfl))) (v_var (pv 4 (hv := Or.inl rfl))) (v_tup (d_cons (v_ix ix_seq o_ix (pv 2 (hv := Or.inl rfl)) (pv 4 (hv := Or.inl rfl)) (fun _ _ => rfl)) (d_cons (v_ix ix_seq o_ix (pv 2 (hv := Or.inl rfl)) (pv 3 (hv := Or.inl rfl)) (fun _ _ => rfl)) d_nil)))))))
    (s_one (s_ret (v_var (pv 2 (hv := Or.inl rfl)))))))

theorem sc_w_dressed : FnScope ["store", "things", "found", "thing", "inner", "entry"] ["store", "things"] (defScope st_w_dressed) := ⟨rfl, rfl, rfl, by decide +kernel, rfl, by decide +kernel, by decide +kernel⟩
theorem ok_w_dressed {y : Str} (T : Tx P K mg) (h_w_take : FK P w K mg base 2 2 "_law_take" ["store", "limit"] F_w_take) (F : ∃ fd, FunD K "_law_dressed" "_law_dressed" (defArgs st_w_dressed) (defBody st_w_dressed) (defScope st_w_dressed) [] [] (He.ga K y) fd) (g : mg y = some (.ref (He.ga K y))) : FK P w K mg base 3 2 y ["store", "things"] F_w_dressed :=
  fk_mk (k := 2) F g sc_w_dressed rfl (by decide) (fun _ _ _ _ _ _ us hl => match us, hl with | [_, _], _ => rfl) fun f cdv A outer s H E μ hr tk po =>
    have sc := sc_w_dressed
    (s_cons (s_setO sc.nd rfl (Or.inl rfl) (v_lst d_nil))
    (s_cons (s_for (po E) rfl (i_seq (v_var (pv 1 (hv := Or.inl rfl)))) (g_nm sc.nd rfl (Or.inl rfl)) (s_cons (s_setO sc.nd rfl (Or.inl rfl) (v_lst d_nil))
    (s_cons (s_for (po E) rfl (i_seq (v_var (pv 3 (hv := Or.inl rfl)))) (g_nm sc.nd rfl (Or.inl rfl)) (s_cons (s_if (PW.pt (v_and (v_tv (v_isi T.ins (by decide) (by rfl) (T.f_isinstance) (pv 5 (hv := Or.inl rfl)) (c_ty (T := .tup) (by rfl) (T.f_tuple) (by decide +kernel)))) (v_and1 (v_tcmp op_eq o_eq.s2 (v_fkM h_w_take hr (by decide) (by rfl) tk (m_cons (pv 0 (hv := Or.inl rfl)) (d_cons v_int d_nil))) v_int (nomark _))))) (s_one (s_set sc.nd rfl (Or.inl rfl) (v_frz (v_callTO call_list_of o_list (by rfl) (T.f_list) (by decide +kernel) (v_cons (pv 5 (hv := Or.inl rfl)) v_nil))))) s_nil)
    (s_one (s_app (pv 4 (hv := Or.inl rfl)) (v_var (pv 5 (hv := Or.inl rfl)))))))
    (s_cons (s_if (v_tcmp op_eq o_eq.s2 (v_fkM h_w_take hr (by decide) (by rfl) tk (m_cons (pv 0 (hv := Or.inl rfl)) (d_cons v_int d_nil))) v_int (nomark _)) (s_one (s_set sc.nd rfl (Or.inl rfl) (v_callT call_tuple_of o_tuple (by rfl) (T.f_tuple) (by decide +kernel) (v_cons (pv 4 (hv := Or.inl rfl)) v_nil)))) s_nil)
    (s_one (s_app (pv 2 (hv := Or.inl rfl)) (v_var (pv 4 (hv := Or.inl rfl)))))))))
    (s_one (s_ret (v_var (pv 2 (hv := Or.inl rfl)))))))

theorem sc_w_is_number : FnScope ["value"] ["value"] (defScope st_w_is_number) := ⟨rfl, rfl, rfl, by decide +kernel, rfl, by decide +kernel, by decide +kernel⟩
theorem ok_w_is_number {y : Str} (T : Tx P K mg)  (F : ∃ fd, FunD K "_law_is_number" "_law_is_number" (defArgs st_w_is_number) (defBody st_w_is_number) (defScope st_w_is_number) [] [] (He.ga K y) fd) (g : mg y = some (.ref (He.ga K y))) : FK P w K mg base 1 1 y ["value"] F_w_is_number :=
  fk_mk (k := 0) F g sc_w_is_number rfl (by decide) (fun _ _ _ _ _ _ us hl => match us, hl with | [_], _ => rfl) fun f cdv A outer s H E μ hr tk po =>
    have sc := sc_w_is_number
    (s_one (s_ret (v_andV (v_isi T.ins (by decide) (by rfl) (T.f_isinstance) (pv 0 (hv := Or.inl rfl)) (c_ty (T := .int) (by rfl) (T.f_int) (by decide +kernel))) (v_one (v_notV (v_isi T.ins (by decide) (by rfl) (T.f_isinstance) (pv 0 (hv := Or.inl rfl)) (c_ty (T := .bl) (by rfl) (T.f_bool) (by decide +kernel))))))))

theorem sc_w_alike : FnScope ["told", "due", "todo", "turn", "one", "two", "k"] ["told", "due"] (defScope st_w_alike) := ⟨rfl, rfl, rfl, by decide +kernel, rfl, by decide +kernel, by decide +kernel⟩
theorem ok_w_alike {y : Str} (T : Tx P K mg) (h_w_is_number : FK P w K mg base 1 1 "_law_is_number" ["value"] F_w_is_number) (F : ∃ fd, FunD K "_law_alike" "_law_alike" (defArgs st_w_alike) (defBody st_w_alike) (defScope st_w_alike) [] [] (He.ga K y) fd) (g : mg y = some (.ref (He.ga K y))) : FK P w K mg base 2 2 y ["told", "due"] F_w_alike :=
  fk_mk (k := 1) F g sc_w_alike rfl (by decide) (fun _ _ _ _ _ _ us hl => match us, hl with | [_, _], _ => rfl) fun f cdv A outer s H E μ hr tk po =>
    have sc := sc_w_alike
    (s_cons (s_setO sc.nd rfl (Or.inl rfl) (v_lst (d_cons (v_tup (d_cons (v_var (pv 0 (hv := Or.inl rfl))) (d_cons (v_var (pv 1 (hv := Or.inl rfl))) d_nil))) d_nil)))
    (s_cons (s_for (po E) rfl (i_rng1 (by rfl) (T.f_range) (v_cons v_int v_nil)) (g_nm sc.nd rfl (Or.inl rfl)) (s_cons (s_if (v_tcmp op_eq o_eq.s2 (v_callB call_len o_len (by rfl) (T.f_len) (by decide +kernel) (v_cons (pv 2 (hv := Or.inl rfl)) v_nil)) v_int (nomark _)) (s_one (s_ret v_bl)) s_nil)
    (s_cons (s_asg (v_pop (pv 2 (hv := Or.inl rfl))) (g_tup (K := K) rfl (g_cons (K := K) (g_nm (K := K) sc.nd rfl (Or.inl rfl)) (g_cons (K := K) (g_nm (K := K) sc.nd rfl (Or.inl rfl)) g_nil))))
    (s_one (s_if (PW.pt (v_or (v_tcmp op_isN o_is.s2 (pv 5 (hv := Or.inl rfl)) v_non (nomark _)) (v_or1 (v_tv (v_isi T.ins (by decide) (by rfl) (T.f_isinstance) (pv 5 (hv := Or.inl rfl)) (c_ty (T := .bl) (by rfl) (T.f_bool) (by decide +kernel))))))) (s_one (s_if (PW.pt (v_or (PW.pt (v_and (v_tcmp op_isN o_is.s2 (pv 5 (hv := Or.inl rfl)) v_non (nomark _)) (v_and1 (v_tcmp op_notN o_isn.s2 (pv 4 (hv := Or.inl rfl)) v_non (nomark _))))) (v_or1 (PW.pt (v_and (v_tcmp op_notN o_isn.s2 (pv 5 (hv := Or.inl rfl)) v_non (nomark _)) (v_and1 (PW.pt (v_or (v_not (v_tv (v_isi T.ins (by decide) (by rfl) (T.f_isinstance) (pv 4 (hv := Or.inl rfl)) (c_ty (T := .bl) (by rfl) (T.f_bool) (by decide +kernel))))) (v_or1 (v_tcmp op_ne o_ne.s2 (pv 4 (hv := Or.inl rfl)) (pv 5 (hv := Or.inl rfl)) (nomark _))))))))))) (s_one (s_ret v_bl)) s_nil)) (s_one (s_if (v_tv (v_isi T.ins (by decide) (by rfl) (T.f_isinstance) (pv 5 (hv := Or.inl rfl)) (c_ty (T := .int) (by rfl) (T.f_int) (by decide +kernel)))) (s_one (s_if (PW.pt (v_or (v_not (v_tv (v_fk h_w_is_number hr (by decide) (by rfl) tk (d_cons (v_var (pv 4 (hv := Or.inl rfl))) d_nil)))) (v_or1 (v_tcmp op_ne o_ne.s2 (pv 4 (hv := Or.inl rfl)) (pv 5 (hv := Or.inl rfl)) (nomark _))))) (s_one (s_ret v_bl)) s_nil)) (s_one (s_if (v_tv (v_isi T.ins (by decide) (by rfl) (T.f_isinstance) (pv 5 (hv := Or.inl rfl)) (c_ty (T := .str) (by rfl) (T.f_str) (by decide +kernel)))) (s_one (s_if (PW.pt (v_or (v_not (v_tv (v_isi T.ins (by decide) (by rfl) (T.f_isinstance) (pv 4 (hv := Or.inl rfl)) (c_ty (T := .str) (by rfl) (T.f_str) (by decide +kernel))))) (v_or1 (v_tcmp op_ne o_ne.s2 (pv 4 (hv := Or.inl rfl)) (pv 5 (hv := Or.inl rfl)) (nomark _))))) (s_one (s_ret v_bl)) s_nil)) (s_one (s_if (v_tv (v_isi T.ins (by decide) (by rfl) (T.f_isinstance) (pv 5 (hv := Or.inl rfl)) (c_ty (T := .dic) (by rfl) (T.f_dict) (by decide +kernel)))) s_no (s_cons (s_if (PW.pt (v_and (v_tv (v_isi T.ins (by decide) (by rfl) (T.f_isinstance) (pv 5 (hv := Or.inl rfl)) (c_ty (T := .tup) (by rfl) (T.f_tuple) (by decide +kernel)))) (v_and1 (v_not (v_tv (v_isi T.ins (by decide) (by rfl) (T.f_isinstance) (pv 4 (hv := Or.inl rfl)) (c_ty (T := .tup) (by rfl) (T.f_tuple) (by decide +kernel)))))))) (s_one (s_ret v_bl)) s_nil)
    (s_cons (s_if (PW.pt (v_or (PW.pt (v_and (v_tv (v_isi T.ins (by decide) (by rfl) (T.f_isinstance) (pv 5 (hv := Or.inl rfl)) (c_ty (T := .lst) (by rfl) (T.f_list) (by decide +kernel)))) (v_and1 (v_not (v_tv (v_isi T.ins (by decide) (by rfl) (T.f_isinstance) (pv 4 (hv := Or.inl rfl)) (c_ty (T := .lst) (by rfl) (T.f_list) (by decide +kernel)))))))) (v_or1 (v_tcmp op_ne o_ne.s2 (v_callB call_len o_len (by rfl) (T.f_len) (by decide +kernel) (v_cons (pv 4 (hv := Or.inl rfl)) v_nil)) (v_callB call_len o_len (by rfl) (T.f_len) (by decide +kernel) (v_cons (pv 5 (hv := Or.inl rfl)) v_nil)) (nomark _))))) (s_one (s_ret v_bl)) s_nil)
    (s_one (s_for (po E) rfl (i_rng1 (by rfl) (T.f_range) (v_cons (v_callB call_len o_len (by rfl) (T.f_len) (by decide +kernel) (v_cons (pv 5 (hv := Or.inl rfl)) v_nil)) v_nil)) (g_nm sc.nd rfl (Or.inl rfl)) (s_one (s_app (pv 2 (hv := Or.inl rfl)) (v_tup (d_cons (v_ix ix_seq o_ix (pv 4 (hv := Or.inl rfl)) (pv 6 (hv := Or.inl rfl)) (fun _ _ => rfl)) (d_cons (v_ix ix_seq o_ix (pv 5 (hv := Or.inl rfl)) (pv 6 (hv := Or.inl rfl)) (fun _ _ => rfl)) d_nil))))))))))))))))))))
    (s_one (s_ret (v_cmp op_eq o_eq.s2 (v_callB call_len o_len (by rfl) (T.f_len) (by decide +kernel) (v_cons (pv 2 (hv := Or.inl rfl)) v_nil)) v_int (nomark _))))))

theorem sc_p_check_row : FnScope ["row"] ["row"] (defScope st_p_check_row) := ⟨rfl, rfl, rfl, by decide +kernel, rfl, by decide +kernel, by decide +kernel⟩
theorem ok_p_check_row {y : Str} (T : Tx P K mg)  (F : ∃ fd, FunD K "check_row" "check_row" (defArgs st_p_check_row) (defBody st_p_check_row) (defScope st_p_check_row) [] [] (He.ga K y) fd) (g : mg y = some (.ref (He.ga K y))) : FK P w K mg base 4 1 y ["row"] F_p_check_row :=
  fk_mk (k := 3) F g sc_p_check_row rfl (by decide) (fun _ _ _ _ _ _ us hl => match us, hl with | [_], _ => rfl) fun f cdv A outer s H E μ hr tk po =>
    have sc := sc_p_check_row
    (s_one (s_if (v_not (v_tchain op_le op_le o_cmpI o_cmpI v_int (v_callB call_len o_len (by rfl) (T.f_len) (by decide +kernel) (v_cons (pv 0 (hv := Or.inl rfl)) v_nil)) (g_int T.c_MOST_DIM (by rfl)))) (s_one (s_raise T.x_BadCall hr tk (by rfl) v_str)) s_nil))

theorem sc_p_check_rows : FnScope ["rows", "row"] ["rows"] (defScope st_p_check_rows) := ⟨rfl, rfl, rfl, by decide +kernel, rfl, by decide +kernel, by decide +kernel⟩
theorem ok_p_check_rows {y : Str} (T : Tx P K mg) (h_p_check_row : FK P w K mg base 4 1 "check_row" ["row"] F_p_check_row) (F : ∃ fd, FunD K "check_rows" "check_rows" (defArgs st_p_check_rows) (defBody st_p_check_rows) (defScope st_p_check_rows) [] [] (He.ga K y) fd) (g : mg y = some (.ref (He.ga K y))) : FK P w K mg base 5 1 y ["rows"] F_p_check_rows :=
  fk_mk (k := 4) F g sc_p_check_rows rfl (by decide) (fun _ _ _ _ _ _ us hl => match us, hl with | [_], _ => rfl) fun f cdv A outer s H E μ hr tk po =>
    have sc := sc_p_check_rows
    (s_one (s_for (po E) rfl (i_seq (v_var (pv 0 (hv := Or.inl rfl)))) (g_nm sc.nd rfl (Or.inl rfl)) (s_cons (s_expr (v_fk h_p_check_row hr (by decide) (by rfl) tk (d_cons (v_var (pv 1 (hv := Or.inl rfl))) d_nil)))
    (s_one (s_if (v_tcmp op_ne o_ne.s2 (v_callB call_len o_len (by rfl) (T.f_len) (by decide +kernel) (v_cons (pv 1 (hv := Or.inl rfl)) v_nil)) (v_callB call_len o_len (by rfl) (T.f_len) (by decide +kernel) (v_cons (v_ix ix_seq o_ix (pv 0 (hv := Or.inl rfl)) v_int (fun _ _ => rfl)) v_nil)) (nomark _)) (s_one (s_raise T.x_BadCall hr tk (by rfl) v_str)) s_nil)))))

theorem sc_p_combination : FnScope ["weights", "rows", "total", "weight", "row", "have", "number"] ["weights", "rows"] (defScope st_p_combination) := ⟨rfl, rfl, rfl, by decide +kernel, rfl, by decide +kernel, by decide +kernel⟩
theorem ok_p_combination {y : Str} (T : Tx P K mg) (h_p_check_rows : FK P w K mg base 5 1 "check_rows" ["rows"] F_p_check_rows) (F : ∃ fd, FunD K "combination" "combination" (defArgs st_p_combination) (defBody st_p_combination) (defScope st_p_combination) [] [] (He.ga K y) fd) (g : mg y = some (.ref (He.ga K y))) : FK P w K mg base 6 2 y ["weights", "rows"] F_p_combination :=
  fk_mk (k := 5) F g sc_p_combination rfl (by decide) (fun _ _ _ _ _ _ us hl => match us, hl with | [_, _], _ => rfl) fun f cdv A outer s H E μ hr tk po =>
    have sc := sc_p_combination
    (s_cons (s_expr (v_fk h_p_check_rows hr (by decide) (by rfl) tk (d_cons (v_var (pv 1 (hv := Or.inl rfl))) d_nil)))
    (s_cons (s_if (v_tcmp op_eq o_eq.s2 (v_callB call_len o_len (by rfl) (T.f_len) (by decide +kernel) (v_cons (pv 1 (hv := Or.inl rfl)) v_nil)) v_int (nomark _)) (s_one (s_raise T.x_BadCall hr tk (by rfl) v_str)) s_nil)
    (s_cons (s_if (v_tcmp op_ne o_ne.s2 (v_callB call_len o_len (by rfl) (T.f_len) (by decide +kernel) (v_cons (pv 0 (hv := Or.inl rfl)) v_nil)) (v_callB call_len o_len (by rfl) (T.f_len) (by decide +kernel) (v_cons (pv 1 (hv := Or.inl rfl)) v_nil)) (nomark _)) (s_one (s_raise T.x_BadCall hr tk (by rfl) v_str)) s_nil)
    (s_cons (s_set sc.nd rfl (Or.inl rfl) (v_bin op_mulA o_mul (v_frz (v_lst (d_cons v_int d_nil))) (v_callB call_len o_len (by rfl) (T.f_len) (by decide +kernel) (v_cons (v_ix ix_seq o_ix (pv 1 (hv := Or.inl rfl)) v_int (fun _ _ => rfl)) v_nil))))
    (s_cons (s_for (po E) rfl (i_zip (by rfl) (T.f_zip) (d_cons (v_var (pv 0 (hv := Or.inl rfl))) (d_cons (v_var (pv 1 (hv := Or.inl rfl))) d_nil))) (g_tup (K := K) rfl (g_cons (K := K) (g_nm (K := K) sc.nd rfl (Or.inr rfl)) (g_cons (K := K) (g_nm (K := K) sc.nd rfl (Or.inl rfl)) g_nil))) (s_one (s_setLc (own := [("have", 5), ("number", 6)]) (show _ from by simp [tgIn]) rfl sc.nd rfl rfl (sw_true rfl rfl rfl (by decide +kernel)) (i_zip (by rfl) (T.f_zip) (d_cons (v_var (pv 2 (hv := Or.inl rfl))) (d_cons (v_var (pv 4 (hv := Or.inl rfl))) d_nil))) (blkOk_by (by kernel_rfl)) (fun _ _ _ _ _ => (g_tup (K := K) rfl (g_cons (K := K) (g_nm (K := K) sc.nd rfl (Or.inl rfl)) (g_cons (K := K) (g_nm (K := K) sc.nd rfl (Or.inl rfl)) g_nil)))) (fun _ _ _ _ _ => t_yes) (fun _ _ _ _ _ => (v_bin op_addA o_add (pv 5 (hv := Or.inl rfl)) (v_bin op_mulA o_mul (pv 3 (hv := Or.inr (Or.inl rfl))) (pv 6 (hv := Or.inl rfl))))))))
    (s_one (s_ret (v_callT call_tuple_of o_tuple (by rfl) (T.f_tuple) (by decide +kernel) (v_cons (pv 2 (hv := Or.inl rfl)) v_nil)))))))))

theorem sc_p_common_vectors : FnScope ["one", "other"] ["one", "other"] (defScope st_p_common_vectors) := ⟨rfl, rfl, rfl, by decide +kernel, rfl, by decide +kernel, by decide +kernel⟩
theorem ok_p_common_vectors {y : Str} (T : Tx P K mg)  (F : ∃ fd, FunD K "common" "common" (defArgs st_p_common_vectors) (defBody st_p_common_vectors) (defScope st_p_common_vectors) [] [] (He.ga K y) fd) (g : mg y = some (.ref (He.ga K y))) : FK P w K mg base 1 2 y ["one", "other"] F_p_common_vectors :=
  fk_mk (k := 0) F g sc_p_common_vectors rfl (by decide) (fun _ _ _ _ _ _ us hl => match us, hl with | [_, _], _ => rfl) fun f cdv A outer s H E μ hr tk po =>
    have sc := sc_p_common_vectors
    (s_cons (s_while (fuel := fuelE) (po E) (v_tcmp op_ne o_ne.s2 (pv 1 (hv := Or.inl rfl)) v_int (nomark _)) (s_one (s_par rfl sc.nd rfl rfl (by decide) rfl rfl (d_cons (v_var (pv 1 (hv := Or.inl rfl))) (d_cons (v_bin op_modN o_mod (pv 0 (hv := Or.inl rfl)) (pv 1 (hv := Or.inl rfl))) d_nil)) (by rfl))))
    (s_one (s_ret (v_var (pv 0 (hv := Or.inl rfl))))))

theorem sc_p_divisor : FnScope ["numbers", "found", "number"] ["numbers"] (defScope st_p_divisor) := ⟨rfl, rfl, rfl, by decide +kernel, rfl, by decide +kernel, by decide +kernel⟩
theorem ok_p_divisor {y : Str} (T : Tx P K mg) (h_p_common_vectors : FK P w K mg base 1 2 "common_vectors" ["one", "other"] F_p_common_vectors) (F : ∃ fd, FunD K "divisor" "divisor" (defArgs st_p_divisor) (defBody st_p_divisor) (defScope st_p_divisor) [] [] (He.ga K y) fd) (g : mg y = some (.ref (He.ga K y))) : FK P w K mg base 2 1 y ["numbers"] F_p_divisor :=
  fk_mk (k := 1) F g sc_p_divisor rfl (by decide) (fun _ _ _ _ _ _ us hl => match us, hl with | [_], _ => rfl) fun f cdv A outer s H E μ hr tk po =>
    have sc := sc_p_divisor
    (s_cons (s_set sc.nd rfl (Or.inl rfl) v_int)
    (s_cons (s_for (po E) rfl (i_seq (v_var (pv 0 (hv := Or.inl rfl)))) (g_nm sc.nd rfl (Or.inl rfl)) (s_cons (s_set sc.nd rfl (Or.inl rfl) (v_fk h_p_common_vectors hr (by decide) (by rfl) tk (d_cons (v_var (pv 1 (hv := Or.inl rfl))) (d_cons (v_callB call_abs o_abs (by rfl) (T.f_abs) (by decide +kernel) (v_cons (pv 2 (hv := Or.inl rfl)) v_nil)) d_nil))))
    (s_one (s_if (v_tcmp op_eq o_eq.s2 (pv 1 (hv := Or.inl rfl)) v_int (nomark _)) (s_one (s_ret v_int)) s_nil))))
    (s_one (s_ret (v_var (pv 1 (hv := Or.inl rfl)))))))

theorem sc_p_is_vector : FnScope ["v", "number"] ["v"] (defScope st_p_is_vector) := ⟨rfl, rfl, rfl, by decide +kernel, rfl, by decide +kernel, by decide +kernel⟩
theorem ok_p_is_vector {y : Str} (T : Tx P K mg) (h_p_divisor : FK P w K mg base 2 1 "divisor" ["numbers"] F_p_divisor) (F : ∃ fd, FunD K "is_vector" "is_vector" (defArgs st_p_is_vector) (defBody st_p_is_vector) (defScope st_p_is_vector) [] [] (He.ga K y) fd) (g : mg y = some (.ref (He.ga K y))) : FK P w K mg base 3 1 y ["v"] F_p_is_vector :=
  fk_mk (k := 2) F g sc_p_is_vector rfl (by decide) (fun _ _ _ _ _ _ us hl => match us, hl with | [_], _ => rfl) fun f cdv A outer s H E μ hr tk po =>
    have sc := sc_p_is_vector
    (s_cons (s_if (PW.pt (v_or (v_not (v_tv (v_isiT (Ts := [.tup, .lst]) T.ins (by decide) (by decide) (by rfl) (T.f_isinstance) (pv 0 (hv := Or.inl rfl)) (pa_cons (c_ty (T := .tup) (by rfl) (T.f_tuple) (by decide +kernel)) (pa_cons (c_ty (T := .lst) (by rfl) (T.f_list) (by decide +kernel)) pa_nil)) (by decide)))) (v_or1 (v_not (v_tchain op_le op_le o_cmpI o_cmpI v_int (v_callB call_len o_len (by rfl) (T.f_len) (by decide +kernel) (v_cons (pv 0 (hv := Or.inl rfl)) v_nil)) (g_int T.c_MOST_DIM (by rfl))))))) (s_one (s_ret v_bl)) s_nil)
    (s_cons (s_for (po E) rfl (i_seq (v_var (pv 0 (hv := Or.inl rfl)))) (g_nm sc.nd rfl (Or.inl rfl)) (s_cons (s_if (PW.pt (v_or (v_tv (v_isi T.ins (by decide) (by rfl) (T.f_isinstance) (pv 1 (hv := Or.inl rfl)) (c_ty (T := .bl) (by rfl) (T.f_bool) (by decide +kernel)))) (v_or1 (v_not (v_tv (v_isi T.ins (by decide) (by rfl) (T.f_isinstance) (pv 1 (hv := Or.inl rfl)) (c_ty (T := .int) (by rfl) (T.f_int) (by decide +kernel)))))))) (s_one (s_ret v_bl)) s_nil)
    (s_one (s_if (v_tcmp op_gt o_cmpI.s2 (v_callB call_abs o_abs (by rfl) (T.f_abs) (by decide +kernel) (v_cons (pv 1 (hv := Or.inl rfl)) v_nil)) (g_int T.c_MOST_NUMBER (by rfl)) (nomark _)) (s_one (s_ret v_bl)) s_nil))))
    (s_one (s_ret (v_cmp op_eq o_eq.s2 (v_fk h_p_divisor hr (by decide) (by rfl) tk (d_cons (v_var (pv 0 (hv := Or.inl rfl))) d_nil)) v_int (nomark _))))))

theorem sc_p_primitive : FnScope ["v", "by", "number"] ["v"] (defScope st_p_primitive) := ⟨rfl, rfl, rfl, by decide +kernel, rfl, by decide +kernel, by decide +kernel⟩
theorem ok_p_primitive {y : Str} (T : Tx P K mg) (h_p_check_row : FK P w K mg base 4 1 "check_row" ["row"] F_p_check_row) (h_p_divisor : FK P w K mg base 2 1 "divisor" ["numbers"] F_p_divisor) (F : ∃ fd, FunD K "primitive" "primitive" (defArgs st_p_primitive) (defBody st_p_primitive) (defScope st_p_primitive) [] [] (He.ga K y) fd) (g : mg y = some (.ref (He.ga K y))) : FK P w K mg base 5 1 y ["v"] F_p_primitive :=
  fk_mk (k := 4) F g sc_p_primitive rfl (by decide) (fun _ _ _ _ _ _ us hl => match us, hl with | [_], _ => rfl) fun f cdv A outer s H E μ hr tk po =>
    have sc := sc_p_primitive
    (s_cons (s_expr (v_fk h_p_check_row hr (by decide) (by rfl) tk (d_cons (v_var (pv 0 (hv := Or.inl rfl))) d_nil)))
    (s_cons (s_set sc.nd rfl (Or.inr rfl) (v_fk h_p_divisor hr (by decide) (by rfl) tk (d_cons (v_var (pv 0 (hv := Or.inl rfl))) d_nil)))
    (s_cons (s_if (v_tcmp op_eq o_eq.s2 (pv 1 (hv := Or.inr (Or.inl rfl))) v_int (nomark _)) (s_one (s_raise T.x_BadVector hr tk (by rfl) v_str)) s_nil)
    (s_one (s_ret (v_callT call_tuple_of o_tuple (by rfl) (T.f_tuple) (by decide +kernel) (v_cons (v_frz (v_lc (own := [("number", 2)]) (show _ from by simp [tgIn]) rfl sc.nd (i_seq (v_var (pv 0 (hv := Or.inl rfl)))) (blkOk_by (by kernel_rfl)) (fun _ _ _ _ _ => (g_nm sc.nd rfl (Or.inl rfl))) (fun _ _ _ _ _ => t_yes) (fun _ _ _ _ _ => (v_bin op_fdivA o_fdiv (pv 2 (hv := Or.inl rfl)) (pv 1 (hv := Or.inr (Or.inl rfl))))))) v_nil)))))))

theorem sc_p_turned_up : FnScope ["numbers", "number", "each"] ["numbers"] (defScope st_p_turned_up) := ⟨rfl, rfl, rfl, by decide +kernel, rfl, by decide +kernel, by decide +kernel⟩
theorem ok_p_turned_up {y : Str} (T : Tx P K mg)  (F : ∃ fd, FunD K "turned_up" "turned_up" (defArgs st_p_turned_up) (defBody st_p_turned_up) (defScope st_p_turned_up) [] [] (He.ga K y) fd) (g : mg y = some (.ref (He.ga K y))) : FK P w K mg base 1 1 y ["numbers"] F_p_turned_up :=
  fk_mk (k := 0) F g sc_p_turned_up rfl (by decide) (fun _ _ _ _ _ _ us hl => match us, hl with | [_], _ => rfl) fun f cdv A outer s H E μ hr tk po =>
    have sc := sc_p_turned_up
    (s_cons (s_for (po E) rfl (i_seq (v_var (pv 0 (hv := Or.inl rfl)))) (g_nm sc.nd rfl (Or.inl rfl)) (s_cons (s_if (v_tcmp op_gt o_cmpI.s2 (pv 1 (hv := Or.inl rfl)) v_int (nomark _)) (s_one (s_ret (v_callT call_tuple_of o_tuple (by rfl) (T.f_tuple) (by decide +kernel) (v_cons (pv 0 (hv := Or.inl rfl)) v_nil)))) s_nil)
    (s_one (s_if (v_tcmp op_lt o_cmpI.s2 (pv 1 (hv := Or.inl rfl)) v_int (nomark _)) (s_one (s_ret (v_callT call_tuple_of o_tuple (by rfl) (T.f_tuple) (by decide +kernel) (v_cons (v_frz (v_lc (own := [("each", 2)]) (show _ from by simp [tgIn]) rfl sc.nd (i_seq (v_var (pv 0 (hv := Or.inl rfl)))) (blkOk_by (by kernel_rfl)) (fun _ _ _ _ _ => (g_nm sc.nd rfl (Or.inl rfl))) (fun _ _ _ _ _ => t_yes) (fun _ _ _ _ _ => (v_un un_neg o_neg (pv 2 (hv := Or.inl rfl)))))) v_nil)))) s_nil))))
    (s_one (s_ret (v_callT call_tuple_of o_tuple (by rfl) (T.f_tuple) (by decide +kernel) (v_cons (pv 0 (hv := Or.inl rfl)) v_nil)))))

theorem sc_p_upright : FnScope ["v"] ["v"] (defScope st_p_upright) := ⟨rfl, rfl, rfl, by decide +kernel, rfl, by decide +kernel, by decide +kernel⟩
theorem ok_p_upright {y : Str} (T : Tx P K mg) (h_p_turned_up : FK P w K mg base 1 1 "turned_up" ["numbers"] F_p_turned_up) (h_p_primitive : FK P w K mg base 5 1 "primitive" ["v"] F_p_primitive) (F : ∃ fd, FunD K "upright" "upright" (defArgs st_p_upright) (defBody st_p_upright) (defScope st_p_upright) [] [] (He.ga K y) fd) (g : mg y = some (.ref (He.ga K y))) : FK P w K mg base 6 1 y ["v"] F_p_upright :=
  fk_mk (k := 5) F g sc_p_upright rfl (by decide) (fun _ _ _ _ _ _ us hl => match us, hl with | [_], _ => rfl) fun f cdv A outer s H E μ hr tk po =>
    have sc := sc_p_upright
    (s_one (s_ret (v_fk h_p_turned_up hr (by decide) (by rfl) tk (d_cons (v_fk h_p_primitive hr (by decide) (by rfl) tk (d_cons (v_var (pv 0 (hv := Or.inl rfl))) d_nil)) d_nil))))

theorem sc_p_contrary : FnScope ["v", "number"] ["v"] (defScope st_p_contrary) := ⟨rfl, rfl, rfl, by decide +kernel, rfl, by decide +kernel, by decide +kernel⟩
theorem ok_p_contrary {y : Str} (T : Tx P K mg) (h_p_check_row : FK P w K mg base 4 1 "check_row" ["row"] F_p_check_row) (F : ∃ fd, FunD K "contrary" "contrary" (defArgs st_p_contrary) (defBody st_p_contrary) (defScope st_p_contrary) [] [] (He.ga K y) fd) (g : mg y = some (.ref (He.ga K y))) : FK P w K mg base 5 1 y ["v"] F_p_contrary :=
  fk_mk (k := 4) F g sc_p_contrary rfl (by decide) (fun _ _ _ _ _ _ us hl => match us, hl with | [_], _ => rfl) fun f cdv A outer s H E μ hr tk po =>
    have sc := sc_p_contrary
    (s_cons (s_expr (v_fk h_p_check_row hr (by decide) (by rfl) tk (d_cons (v_var (pv 0 (hv := Or.inl rfl))) d_nil)))
    (s_one (s_ret (v_callT call_tuple_of o_tuple (by rfl) (T.f_tuple) (by decide +kernel) (v_cons (v_frz (v_lc (own := [("number", 1)]) (show _ from by simp [tgIn]) rfl sc.nd (i_seq (v_var (pv 0 (hv := Or.inl rfl)))) (blkOk_by (by kernel_rfl)) (fun _ _ _ _ _ => (g_nm sc.nd rfl (Or.inl rfl))) (fun _ _ _ _ _ => t_yes) (fun _ _ _ _ _ => (v_un un_neg o_neg (pv 1 (hv := Or.inl rfl)))))) v_nil)))))

theorem sc_p_dot : FnScope ["v", "w", "one", "other"] ["v", "w"] (defScope st_p_dot) := ⟨rfl, rfl, rfl, by decide +kernel, rfl, by decide +kernel, by decide +kernel⟩
theorem ok_p_dot {y : Str} (T : Tx P K mg) (h_p_check_rows : FK P w K mg base 5 1 "check_rows" ["rows"] F_p_check_rows) (F : ∃ fd, FunD K "dot" "dot" (defArgs st_p_dot) (defBody st_p_dot) (defScope st_p_dot) [] [] (He.ga K y) fd) (g : mg y = some (.ref (He.ga K y))) : FK P w K mg base 6 2 y ["v", "w"] F_p_dot :=
  fk_mk (k := 5) F g sc_p_dot rfl (by decide) (fun _ _ _ _ _ _ us hl => match us, hl with | [_, _], _ => rfl) fun f cdv A outer s H E μ hr tk po =>
    have sc := sc_p_dot
    (s_cons (s_expr (v_fk h_p_check_rows hr (by decide) (by rfl) tk (d_cons (v_tup (d_cons (v_var (pv 0 (hv := Or.inl rfl))) (d_cons (v_var (pv 1 (hv := Or.inl rfl))) d_nil))) d_nil)))
    (s_one (s_ret (v_callB (cr_sum rfl) o_sum (by rfl) (T.f_sum) (by decide +kernel) (v_cons (v_frz (v_lc (own := [("one", 2), ("other", 3)]) (show _ from by simp [tgIn]) rfl sc.nd (i_zip (by rfl) (T.f_zip) (d_cons (v_var (pv 0 (hv := Or.inl rfl))) (d_cons (v_var (pv 1 (hv := Or.inl rfl))) d_nil))) (blkOk_by (by kernel_rfl)) (fun _ _ _ _ _ => (g_tup (K := K) rfl (g_cons (K := K) (g_nm (K := K) sc.nd rfl (Or.inl rfl)) (g_cons (K := K) (g_nm (K := K) sc.nd rfl (Or.inl rfl)) g_nil)))) (fun _ _ _ _ _ => t_yes) (fun _ _ _ _ _ => (v_bin op_mulA o_mul (pv 2 (hv := Or.inl rfl)) (pv 3 (hv := Or.inl rfl)))))) v_nil)))))

theorem sc_w_call : FnScope ["deed", "given"] ["deed", "given"] (defScope st_w_call) := ⟨rfl, rfl, rfl, by decide +kernel, rfl, by decide +kernel, by decide +kernel⟩
theorem ok_w_call {y : Str} (T : Tx P K mg) (h_p_is_vector : FK P w K mg base 3 1 "is_vector" ["v"] F_p_is_vector) (h_p_primitive : FK P w K mg base 5 1 "primitive" ["v"] F_p_primitive) (h_p_upright : FK P w K mg base 6 1 "upright" ["v"] F_p_upright) (h_p_contrary : FK P w K mg base 5 1 "contrary" ["v"] F_p_contrary) (h_p_dot : FK P w K mg base 6 2 "dot" ["v", "w"] F_p_dot) (h_p_combination : FK P w K mg base 6 2 "combination" ["weights", "rows"] F_p_combination) (F : ∃ fd, FunD K "_law_call" "_law_call" (defArgs st_w_call) (defBody st_w_call) (defScope st_w_call) [] [] (He.ga K y) fd) (g : mg y = some (.ref (He.ga K y))) : FK P w K mg base 7 2 y ["deed", "given"] F_w_call :=
  fk_mk (k := 6) F g sc_w_call rfl (by decide) (fun _ _ _ _ _ _ us hl => match us, hl with | [_, _], _ => rfl) fun f cdv A outer s H E μ hr tk po =>
    have sc := sc_w_call
    (s_cons (s_if (v_tcmp op_eq o_eq.s2 (pv 0 (hv := Or.inl rfl)) v_str (nomark _)) (s_one (s_ret (v_fk h_p_is_vector hr (by decide) (by rfl) tk (d_cons (v_ix ix_seq o_ix (pv 1 (hv := Or.inl rfl)) v_int (fun _ _ => rfl)) d_nil)))) s_nil)
    (s_cons (s_if (v_tcmp op_eq o_eq.s2 (pv 0 (hv := Or.inl rfl)) v_str (nomark _)) (s_one (s_ret (v_fk h_p_primitive hr (by decide) (by rfl) tk (d_cons (v_ix ix_seq o_ix (pv 1 (hv := Or.inl rfl)) v_int (fun _ _ => rfl)) d_nil)))) s_nil)
    (s_cons (s_if (v_tcmp op_eq o_eq.s2 (pv 0 (hv := Or.inl rfl)) v_str (nomark _)) (s_one (s_ret (v_fk h_p_upright hr (by decide) (by rfl) tk (d_cons (v_ix ix_seq o_ix (pv 1 (hv := Or.inl rfl)) v_int (fun _ _ => rfl)) d_nil)))) s_nil)
    (s_cons (s_if (v_tcmp op_eq o_eq.s2 (pv 0 (hv := Or.inl rfl)) v_str (nomark _)) (s_one (s_ret (v_fk h_p_contrary hr (by decide) (by rfl) tk (d_cons (v_ix ix_seq o_ix (pv 1 (hv := Or.inl rfl)) v_int (fun _ _ => rfl)) d_nil)))) s_nil)
    (s_cons (s_if (v_tcmp op_eq o_eq.s2 (pv 0 (hv := Or.inl rfl)) v_str (nomark _)) (s_one (s_ret (v_fk h_p_dot hr (by decide) (by rfl) tk (d_cons (v_ix ix_seq o_ix (pv 1 (hv := Or.inl rfl)) v_int (fun _ _ => rfl)) (d_cons (v_ix ix_seq o_ix (pv 1 (hv := Or.inl rfl)) v_int (fun _ _ => rfl)) d_nil))))) s_nil)
    (s_one (s_ret (v_fk h_p_combination hr (by decide) (by rfl) tk (d_cons (v_ix ix_seq o_ix (pv 1 (hv := Or.inl rfl)) v_int (fun _ _ => rfl)) (d_cons (v_ix ix_seq o_ix (pv 1 (hv := Or.inl rfl)) v_int (fun _ _ => rfl)) d_nil))))))))))

theorem sc_w_try : FnScope ["deed", "given", "e", "held", "mine"] ["deed", "given"] (defScope st_w_try) := ⟨rfl, rfl, rfl, by decide +kernel, rfl, by decide +kernel, by decide +kernel⟩
theorem ok_w_try {y : Str} (T : Tx P K mg) (h_w_call : FK P w K mg base 7 2 "_law_call" ["deed", "given"] F_w_call) (F : ∃ fd, FunD K "_law_try" "_law_try" (defArgs st_w_try) (defBody st_w_try) (defScope st_w_try) [] [] (He.ga K y) fd) (g : mg y = some (.ref (He.ga K y))) : FK P w K mg base 8 2 y ["deed", "given"] F_w_try :=
  fk_mk (k := 7) F g sc_w_try rfl (by decide) (fun _ _ _ _ _ _ us hl => match us, hl with | [_, _], _ => rfl) fun f cdv A outer s H E μ hr tk po =>
    have sc := sc_w_try
    (s_cons (s_try (fun c h => T.xe "OwnError" (by decide) _ h) ⟨by rfl, by decide, .inl T.g_OwnError⟩ tk sc.nd rfl rfl (fun W2 pn2 xe2 tk2 po2 => (s_one (s_ret (v_tup (d_cons v_str (d_cons (v_fk h_w_call hr (by decide) (by rfl) tk2 (d_cons (v_var (pv 0 (hv := Or.inl rfl))) (d_cons (v_var (pv 1 (hv := Or.inl rfl))) d_nil))) d_nil))))))
    (fun a2 oe2 cls2 d2 pn3 hz hf => (s_cons (s_set sc.nd rfl (Or.inl rfl) (v_frz (v_lst (d_cons (v_isE hz hf (fun _ _ h => T.xc _ _ _ h) (fun _ _ h => T.xi "NoDirection" (by decide) _ _ h) (by rfl) (T.f_isinstance) (pv 2 (hv := Or.inl rfl)) (pe_glob (v := .ref (He.ga K "NoDirection")) (by rfl) T.g_NoDirection rfl) (fun _ r => r)) (d_cons (v_isE hz hf (fun _ _ h => T.xc _ _ _ h) (fun _ _ h => T.xi "BadWall" (by decide) _ _ h) (by rfl) (T.f_isinstance) (pv 2 (hv := Or.inl rfl)) (pe_glob (v := .ref (He.ga K "BadWall")) (by rfl) T.g_BadWall rfl) (fun _ r => r)) (d_cons (v_isE hz hf (fun _ _ h => T.xc _ _ _ h) (fun _ _ h => T.xi "BadRule" (by decide) _ _ h) (by rfl) (T.f_isinstance) (pv 2 (hv := Or.inl rfl)) (pe_glob (v := .ref (He.ga K "BadRule")) (by rfl) T.g_BadRule rfl) (fun _ r => r)) (d_cons (v_isE hz hf (fun _ _ h => T.xc _ _ _ h) (fun _ _ h => T.xi "BadCell" (by decide) _ _ h) (by rfl) (T.f_isinstance) (pv 2 (hv := Or.inl rfl)) (pe_glob (v := .ref (He.ga K "BadCell")) (by rfl) T.g_BadCell rfl) (fun _ r => r)) (d_cons (v_isE hz hf (fun _ _ h => T.xc _ _ _ h) (fun _ _ h => T.xi "BadCut" (by decide) _ _ h) (by rfl) (T.f_isinstance) (pv 2 (hv := Or.inl rfl)) (pe_glob (v := .ref (He.ga K "BadCut")) (by rfl) T.g_BadCut rfl) (fun _ r => r)) (d_cons (v_isE hz hf (fun _ _ h => T.xc _ _ _ h) (fun _ _ h => T.xi "BadMesh" (by decide) _ _ h) (by rfl) (T.f_isinstance) (pv 2 (hv := Or.inl rfl)) (pe_glob (v := .ref (He.ga K "BadMesh")) (by rfl) T.g_BadMesh rfl) (fun _ r => r)) (d_cons (v_isE hz hf (fun _ _ h => T.xc _ _ _ h) (fun _ _ h => T.xi "BadLoop" (by decide) _ _ h) (by rfl) (T.f_isinstance) (pv 2 (hv := Or.inl rfl)) (pe_glob (v := .ref (He.ga K "BadLoop")) (by rfl) T.g_BadLoop rfl) (fun _ r => r)) (d_cons (v_isE hz hf (fun _ _ h => T.xc _ _ _ h) (fun _ _ h => T.xi "BadLattice" (by decide) _ _ h) (by rfl) (T.f_isinstance) (pv 2 (hv := Or.inl rfl)) (pe_glob (v := .ref (He.ga K "BadLattice")) (by rfl) T.g_BadLattice rfl) (fun _ r => r)) (d_cons (v_isE hz hf (fun _ _ h => T.xc _ _ _ h) (fun _ _ h => T.xi "BadMap" (by decide) _ _ h) (by rfl) (T.f_isinstance) (pv 2 (hv := Or.inl rfl)) (pe_glob (v := .ref (He.ga K "BadMap")) (by rfl) T.g_BadMap rfl) (fun _ r => r)) (d_cons (v_isE hz hf (fun _ _ h => T.xc _ _ _ h) (fun _ _ h => T.xi "BadText" (by decide) _ _ h) (by rfl) (T.f_isinstance) (pv 2 (hv := Or.inl rfl)) (pe_glob (v := .ref (He.ga K "BadText")) (by rfl) T.g_BadText rfl) (fun _ r => r)) (d_cons (v_isE hz hf (fun _ _ h => T.xc _ _ _ h) (fun _ _ h => T.xi "NotClean" (by decide) _ _ h) (by rfl) (T.f_isinstance) (pv 2 (hv := Or.inl rfl)) (pe_glob (v := .ref (He.ga K "NotClean")) (by rfl) T.g_NotClean rfl) (fun _ r => r)) (d_cons (v_isE hz hf (fun _ _ h => T.xc _ _ _ h) (fun _ _ h => T.xi "NotGood" (by decide) _ _ h) (by rfl) (T.f_isinstance) (pv 2 (hv := Or.inl rfl)) (pe_glob (v := .ref (He.ga K "NotGood")) (by rfl) T.g_NotGood rfl) (fun _ r => r)) (d_cons (v_isE hz hf (fun _ _ h => T.xc _ _ _ h) (fun _ _ h => T.xi "NotOnce" (by decide) _ _ h) (by rfl) (T.f_isinstance) (pv 2 (hv := Or.inl rfl)) (pe_glob (v := .ref (He.ga K "NotOnce")) (by rfl) T.g_NotOnce rfl) (fun _ r => r)) (d_cons (v_isE hz hf (fun _ _ h => T.xc _ _ _ h) (fun _ _ h => T.xi "TooMuch" (by decide) _ _ h) (by rfl) (T.f_isinstance) (pv 2 (hv := Or.inl rfl)) (pe_glob (v := .ref (He.ga K "TooMuch")) (by rfl) T.g_TooMuch rfl) (fun _ r => r)) d_nil)))))))))))))))))
    (s_cons (s_set sc.nd rfl (Or.inl rfl) (v_frz (v_lst (d_cons (v_isE hz hf (fun _ _ h => T.xc _ _ _ h) (fun _ _ h => T.xi "BadCall" (by decide) _ _ h) (by rfl) (T.f_isinstance) (pv 2 (hv := Or.inl rfl)) (pe_glob (v := .ref (He.ga K "BadCall")) (by rfl) T.g_BadCall rfl) (fun _ r => r)) (d_cons (v_isE hz hf (fun _ _ h => T.xc _ _ _ h) (fun _ _ h => T.xi "BadVector" (by decide) _ _ h) (by rfl) (T.f_isinstance) (pv 2 (hv := Or.inl rfl)) (pe_glob (v := .ref (He.ga K "BadVector")) (by rfl) T.g_BadVector rfl) (fun _ r => r)) d_nil)))))
    (s_cons (s_if (PW.pt (v_or (v_tcmp op_in_seq o_in.s2 v_bl (pv 3 (hv := Or.inl rfl)) (by rfl)) (v_or (v_tcmp op_ne o_ne.s2 (v_count (v_var (pv 4 (hv := Or.inl rfl))) v_bl) v_int (nomark _)) (v_or1 (v_not (v_tv (v_isE hz hf (fun _ _ h => T.xc _ _ _ h) (fun _ _ h => T.xv _ _ h) (by rfl) (T.f_isinstance) (pv 2 (hv := Or.inl rfl)) (pe_bltn (v := .ty "ValueError") (by rfl) (T.f_ValueError) (by decide +kernel) rfl) (fun _ r => r)))))))) (s_one (s_ret (v_tup (d_cons v_str (d_cons v_str (d_cons v_str d_nil)))))) s_nil)
    (s_cons (s_if (v_tv (v_isE hz hf (fun _ _ h => T.xc _ _ _ h) (fun _ _ h => T.xi "BadCall" (by decide) _ _ h) (by rfl) (T.f_isinstance) (pv 2 (hv := Or.inl rfl)) (pe_glob (v := .ref (He.ga K "BadCall")) (by rfl) T.g_BadCall rfl) (fun _ r => r))) (s_one (s_ret (v_tup (d_cons v_str (d_cons v_str (d_cons (v_xf hz hf T.xf_why (pv 2 (hv := Or.inl rfl))) d_nil)))))) s_nil)
    (s_one (s_if (v_tv (v_isE hz hf (fun _ _ h => T.xc _ _ _ h) (fun _ _ h => T.xi "BadVector" (by decide) _ _ h) (by rfl) (T.f_isinstance) (pv 2 (hv := Or.inl rfl)) (pe_glob (v := .ref (He.ga K "BadVector")) (by rfl) T.g_BadVector rfl) (fun _ r => r))) (s_one (s_ret (v_tup (d_cons v_str (d_cons v_str (d_cons (v_xf hz hf T.xf_why (pv 2 (hv := Or.inl rfl))) d_nil)))))) s_nil))))))))
    (s_one (s_ret (v_tup (d_cons v_str (d_cons v_str (d_cons v_str d_nil)))))))

theorem sc_w_asked : FnScope ["store", "deed", "things", "due", "given", "kept"] ["store", "deed", "things", "due"] (defScope st_w_asked) := ⟨rfl, rfl, rfl, by decide +kernel, rfl, by decide +kernel, by decide +kernel⟩
theorem ok_w_asked {y : Str} (T : Tx P K mg) (h_w_dressed : FK P w K mg base 3 2 "_law_dressed" ["store", "things"] F_w_dressed) (h_w_alike : FK P w K mg base 2 2 "_law_alike" ["told", "due"] F_w_alike) (h_w_try : FK P w K mg base 8 2 "_law_try" ["deed", "given"] F_w_try) (F : ∃ fd, FunD K "_law_asked" "_law_asked" (defArgs st_w_asked) (defBody st_w_asked) (defScope st_w_asked) [] [] (He.ga K y) fd) (g : mg y = some (.ref (He.ga K y))) : FK P w K mg base 9 4 y ["store", "deed", "things", "due"] F_w_asked :=
  fk_mk (k := 8) F g sc_w_asked rfl (by decide) (fun _ _ _ _ _ _ us hl => match us, hl with | [_, _, _, _], _ => rfl) fun f cdv A outer s H E μ hr tk po =>
    have sc := sc_w_asked
    (s_cons (s_set sc.nd rfl (Or.inl rfl) (v_fkM h_w_dressed hr (by decide) (by rfl) tk (m_cons (pv 0 (hv := Or.inl rfl)) (d_cons (v_var (pv 2 (hv := Or.inl rfl))) d_nil))))
    (s_cons (s_set sc.nd rfl (Or.inl rfl) (v_callB (call_reprD hr) o_repr (by rfl) (T.f_repr) (by decide +kernel) (v_cons (pv 4 (hv := Or.inl rfl)) v_nil)))
    (s_cons (s_if (PW.pt (v_or (v_not (v_tv (v_fk h_w_alike hr (by decide) (by rfl) tk (d_cons (v_fk h_w_try hr (by decide) (by rfl) tk (d_cons (v_var (pv 1 (hv := Or.inl rfl))) (d_cons (v_var (pv 4 (hv := Or.inl rfl))) d_nil))) (d_cons (v_var (pv 3 (hv := Or.inl rfl))) d_nil))))) (v_or1 (v_tcmp op_ne o_ne.s2 (v_callB (call_reprD hr) o_repr (by rfl) (T.f_repr) (by decide +kernel) (v_cons (pv 4 (hv := Or.inl rfl)) v_nil)) (pv 5 (hv := Or.inl rfl)) (nomark _))))) (s_one (s_ret v_bl)) s_nil)
    (s_one (s_ret (v_andV (v_fk h_w_alike hr (by decide) (by rfl) tk (d_cons (v_fk h_w_try hr (by decide) (by rfl) tk (d_cons (v_var (pv 1 (hv := Or.inl rfl))) (d_cons (v_var (pv 4 (hv := Or.inl rfl))) d_nil))) (d_cons (v_var (pv 3 (hv := Or.inl rfl))) d_nil))) (v_one (v_cmp op_eq o_eq.s2 (v_callB (call_reprD hr) o_repr (by rfl) (T.f_repr) (by decide +kernel) (v_cons (pv 4 (hv := Or.inl rfl)) v_nil)) (pv 5 (hv := Or.inl rfl)) (nomark _)))))))))

theorem sc_w_sums_told : FnScope ["store", "d", "size", "rows", "weights", "due", "spare", "place", "other", "bent", "k", "j"] ["store"] (defScope st_w_sums_told) := ⟨rfl, rfl, rfl, by decide +kernel, rfl, by decide +kernel, by decide +kernel⟩
theorem ok_w_sums_told {y : Str} (T : Tx P K mg) (h_w_take : FK P w K mg base 2 2 "_law_take" ["store", "limit"] F_w_take) (h_w_built : FK P w K mg base 6 2 "_law_built" ["store", "d"] F_w_built) (h_w_number : FK P w K mg base 4 1 "_law_number" ["store"] F_w_number) (h_w_asked : FK P w K mg base 9 4 "_law_asked" ["store", "deed", "things", "due"] F_w_asked) (h_w_pick : FK P w K mg base 3 2 "_law_pick" ["store", "items"] F_w_pick) (F : ∃ fd, FunD K "_law_sums_told" "_law_sums_told" (defArgs st_w_sums_told) (defBody st_w_sums_told) (defScope st_w_sums_told) [] [] (He.ga K y) fd) (g : mg y = some (.ref (He.ga K y))) : FK P w K mg base 10 1 y ["store"] F_w_sums_told :=
  fk_mk (k := 9) F g sc_w_sums_told rfl (by decide) (fun _ _ _ _ _ _ us hl => match us, hl with | [_], _ => rfl) fun f cdv A outer s H E μ hr tk po =>
    have sc := sc_w_sums_told
    (s_cons (s_set sc.nd rfl (Or.inr rfl) (v_bin op_addA o_add v_int (v_fkM h_w_take hr (by decide) (by rfl) tk (m_cons (pv 0 (hv := Or.inr (Or.inl rfl))) (d_cons v_int d_nil)))))
    (s_cons (s_set sc.nd rfl (Or.inr rfl) (v_bin op_addA o_add v_int (v_fkM h_w_take hr (by decide) (by rfl) tk (m_cons (pv 0 (hv := Or.inr (Or.inl rfl))) (d_cons v_int d_nil)))))
    (s_cons (s_if (v_tcmp op_eq o_eq.s2 (v_fkM h_w_take hr (by decide) (by rfl) tk (m_cons (pv 0 (hv := Or.inr (Or.inl rfl))) (d_cons v_int d_nil))) v_int (nomark _)) (s_one (s_set sc.nd rfl (Or.inr rfl) v_int)) s_nil)
    (s_cons (s_set sc.nd rfl (Or.inr rfl) (v_frz (v_lc (own := [("k", 10)]) (show _ from by simp [tgIn]) rfl sc.nd (i_rng1 (by rfl) (T.f_range) (v_cons (pv 2 (hv := Or.inr (Or.inl rfl))) v_nil)) (blkOk_by (by kernel_rfl)) (fun _ _ _ _ _ => (g_nm sc.nd rfl (Or.inl rfl))) (fun _ _ _ _ _ => t_yes) (fun _ _ _ _ _ => (v_fkM h_w_built hr (by decide) (by rfl) takes0 (m_cons (pv 0 (hv := Or.inr (Or.inl rfl))) (d_cons (v_var (pv 1 (hv := Or.inr (Or.inl rfl)))) d_nil)))))))
    (s_cons (s_set sc.nd rfl (Or.inr rfl) (v_frz (v_lc (own := [("k", 10)]) (show _ from by simp [tgIn]) rfl sc.nd (i_rng1 (by rfl) (T.f_range) (v_cons (pv 2 (hv := Or.inr (Or.inl rfl))) v_nil)) (blkOk_by (by kernel_rfl)) (fun _ _ _ _ _ => (g_nm sc.nd rfl (Or.inl rfl))) (fun _ _ _ _ _ => t_yes) (fun _ _ _ _ _ => (v_fkM h_w_number hr (by decide) (by rfl) takes0 (m_cons (pv 0 (hv := Or.inr (Or.inl rfl))) d_nil))))))
    (s_cons (s_set sc.nd rfl (Or.inl rfl) (v_callT call_tuple_of o_tuple (by rfl) (T.f_tuple) (by decide +kernel) (v_cons (v_frz (v_lc (own := [("j", 11)]) (show _ from by simp [tgIn]) rfl sc.nd (i_rng1 (by rfl) (T.f_range) (v_cons (pv 1 (hv := Or.inr (Or.inl rfl))) v_nil)) (blkOk_by (by kernel_rfl)) (fun _ _ _ _ _ => (g_nm sc.nd rfl (Or.inr rfl))) (fun _ _ _ _ _ => t_yes) (fun _ _ _ _ _ => (v_callB (cr_sum rfl) o_sum (by rfl) (T.f_sum) (by decide +kernel) (v_cons (v_frz (v_lc (own := [("k", 10)]) (show _ from by simp [tgIn]) rfl sc.nd (i_rng1 (by rfl) (T.f_range) (v_cons (pv 2 (hv := Or.inr (Or.inl rfl))) v_nil)) (blkOk_by (by kernel_rfl)) (fun _ _ _ _ _ => (g_nm sc.nd rfl (Or.inl rfl))) (fun _ _ _ _ _ => t_yes) (fun _ _ _ _ _ => (v_bin op_mulA o_mul (v_ix ix_seq o_ix (pv 4 (hv := Or.inr (Or.inl rfl))) (pv 10 (hv := Or.inl rfl)) (fun _ _ => rfl)) (v_ix ix_seq o_ix (v_ix ix_seq o_ix (pv 3 (hv := Or.inr (Or.inl rfl))) (pv 10 (hv := Or.inl rfl)) (fun _ _ => rfl)) (pv 11 (hv := Or.inr (Or.inl rfl))) (fun _ _ => rfl)))))) v_nil))))) v_nil)))
    (s_cons (s_if (v_not (v_tv (v_fkM h_w_asked hr (by decide) (by rfl) tk (m_cons (pv 0 (hv := Or.inr (Or.inl rfl))) (d_cons v_str (d_cons (v_frz (v_lst (d_cons (v_var (pv 4 (hv := Or.inr (Or.inl rfl)))) (d_cons (v_var (pv 3 (hv := Or.inr (Or.inl rfl)))) d_nil)))) (d_cons (v_tup (d_cons v_str (d_cons (v_var (pv 5 (hv := Or.inl rfl))) d_nil))) d_nil))))))) (s_one (s_ret v_bl)) s_nil)
    (s_cons (s_set sc.nd rfl (Or.inl rfl) (v_fkM h_w_pick hr (by decide) (by rfl) tk (m_cons (pv 0 (hv := Or.inr (Or.inl rfl))) (d_cons (v_frz (v_lst (d_cons (v_bin op_addA o_add (pv 4 (hv := Or.inr (Or.inl rfl))) (v_frz (v_lst (d_cons v_int d_nil)))) (d_cons (v_sl (pv 4 (hv := Or.inr (Or.inl rfl))) (q_some v_int) q_none) (d_cons (v_frz (v_lst d_nil)) d_nil))))) d_nil))))
    (s_cons (s_if (v_not (v_tv (v_fkM h_w_asked hr (by decide) (by rfl) tk (m_cons (pv 0 (hv := Or.inr (Or.inl rfl))) (d_cons v_str (d_cons (v_frz (v_lst (d_cons (v_var (pv 6 (hv := Or.inl rfl))) (d_cons (v_var (pv 3 (hv := Or.inr (Or.inl rfl)))) d_nil)))) (d_cons (v_tup (d_cons v_str (d_cons v_str (d_cons v_str d_nil)))) d_nil))))))) (s_one (s_ret v_bl)) s_nil)
    (s_cons (s_set sc.nd rfl (Or.inl rfl) (v_fkM h_w_pick hr (by decide) (by rfl) tk (m_cons (pv 0 (hv := Or.inr (Or.inl rfl))) (d_cons (v_frz (v_lst (d_cons (v_frz (v_lst d_nil)) (d_cons (v_frz (v_lst (d_cons v_int d_nil))) (d_cons (v_var (pv 4 (hv := Or.inr (Or.inl rfl)))) d_nil))))) d_nil))))
    (s_cons (s_if (v_not (v_tv (v_fkM h_w_asked hr (by decide) (by rfl) tk (m_cons (pv 0 (hv := Or.inr (Or.inl rfl))) (d_cons v_str (d_cons (v_frz (v_lst (d_cons (v_var (pv 6 (hv := Or.inl rfl))) (d_cons (v_frz (v_lst d_nil)) d_nil)))) (d_cons (v_tup (d_cons v_str (d_cons v_str (d_cons v_str d_nil)))) d_nil))))))) (s_one (s_ret v_bl)) s_nil)
    (s_cons (s_set sc.nd rfl (Or.inl rfl) (v_fkM h_w_take hr (by decide) (by rfl) tk (m_cons (pv 0 (hv := Or.inr (Or.inl rfl))) (d_cons (v_bin op_addA o_add (pv 2 (hv := Or.inr (Or.inl rfl))) v_int) d_nil))))
    (s_cons (s_set sc.nd rfl (Or.inl rfl) (v_fkM h_w_built hr (by decide) (by rfl) tk (m_cons (pv 0 (hv := Or.inr (Or.inl rfl))) (d_cons (v_bin op_addA o_add v_int (v_bin op_modN o_mod (v_callT call_int1 o_int (by rfl) (T.f_int) (by decide +kernel) (v_cons (v_bin op_addA o_add (pv 1 (hv := Or.inr (Or.inl rfl))) (v_fkM h_w_take hr (by decide) (by rfl) tk (m_cons (pv 0 (hv := Or.inr (Or.inl rfl))) (d_cons v_int d_nil)))) v_nil)) v_int)) d_nil))))
    (s_cons (s_if (v_tcmp op_eq o_eq.s2 (v_fkM h_w_take hr (by decide) (by rfl) tk (m_cons (pv 0 (hv := Or.inr (Or.inl rfl))) (d_cons v_int d_nil))) v_int (nomark _)) (s_one (s_set sc.nd rfl (Or.inl rfl) (v_fkM h_w_pick hr (by decide) (by rfl) tk (m_cons (pv 0 (hv := Or.inr (Or.inl rfl))) (d_cons (v_frz (v_lst (d_cons (v_tup d_nil) (d_cons (v_tup (d_cons v_int (d_cons v_int (d_cons v_int (d_cons v_int (d_cons v_int d_nil)))))) d_nil)))) d_nil))))) s_nil)
    (s_cons (s_set sc.nd rfl (Or.inl rfl) (v_bin op_addA o_add (v_bin op_addA o_add (v_sl (pv 3 (hv := Or.inr (Or.inl rfl))) q_none (q_some (pv 7 (hv := Or.inl rfl)))) (v_frz (v_lst (d_cons (v_var (pv 8 (hv := Or.inl rfl))) d_nil)))) (v_sl (pv 3 (hv := Or.inr (Or.inl rfl))) (q_some (pv 7 (hv := Or.inl rfl))) q_none)))
    (s_cons (s_set sc.nd rfl (Or.inl rfl) (v_fkM h_w_pick hr (by decide) (by rfl) tk (m_cons (pv 0 (hv := Or.inr (Or.inl rfl))) (d_cons (v_frz (v_lst (d_cons (v_var (pv 4 (hv := Or.inr (Or.inl rfl)))) (d_cons (v_bin op_addA o_add (pv 4 (hv := Or.inr (Or.inl rfl))) (v_frz (v_lst (d_cons v_int d_nil)))) (d_cons (v_frz (v_lst d_nil)) d_nil))))) d_nil))))
    (s_one (s_ret (v_fkM h_w_asked hr (by decide) (by rfl) tk (m_cons (pv 0 (hv := Or.inr (Or.inl rfl))) (d_cons v_str (d_cons (v_frz (v_lst (d_cons (v_var (pv 6 (hv := Or.inl rfl))) (d_cons (v_var (pv 9 (hv := Or.inl rfl))) d_nil)))) (d_cons (v_tup (d_cons v_str (d_cons v_str (d_cons v_str d_nil)))) d_nil)))))))))))))))))))))))

theorem sc_w_lengths_told : FnScope ["store", "deed", "row"] ["store"] (defScope st_w_lengths_told) := ⟨rfl, rfl, rfl, by decide +kernel, rfl, by decide +kernel, by decide +kernel⟩
theorem ok_w_lengths_told {y : Str} (T : Tx P K mg) (h_w_pick : FK P w K mg base 3 2 "_law_pick" ["store", "items"] F_w_pick) (h_w_asked : FK P w K mg base 9 4 "_law_asked" ["store", "deed", "things", "due"] F_w_asked) (F : ∃ fd, FunD K "_law_lengths_told" "_law_lengths_told" (defArgs st_w_lengths_told) (defBody st_w_lengths_told) (defScope st_w_lengths_told) [] [] (He.ga K y) fd) (g : mg y = some (.ref (He.ga K y))) : FK P w K mg base 10 1 y ["store"] F_w_lengths_told :=
  fk_mk (k := 9) F g sc_w_lengths_told rfl (by decide) (fun _ _ _ _ _ _ us hl => match us, hl with | [_], _ => rfl) fun f cdv A outer s H E μ hr tk po =>
    have sc := sc_w_lengths_told
    (s_cons (s_for (po E) rfl (i_seq (v_frz (v_lst (d_cons v_str (d_cons v_str (d_cons v_str (d_cons v_str d_nil))))))) (g_nm sc.nd rfl (Or.inl rfl)) (s_cons (s_set sc.nd rfl (Or.inl rfl) (v_fkM h_w_pick hr (by decide) (by rfl) tk (m_cons (pv 0 (hv := Or.inl rfl)) (d_cons (v_frz (v_lst (d_cons (v_tup d_nil) (d_cons (v_tup (d_cons v_int (d_cons v_int (d_cons v_int (d_cons v_int (d_cons v_int d_nil)))))) (d_cons (v_tup (d_cons v_int (d_cons v_int (d_cons v_int (d_cons v_int (d_cons v_int d_nil)))))) (d_cons (v_tup (d_cons v_int (d_cons v_int (d_cons v_int (d_cons v_int (d_cons v_int (d_cons v_int d_nil))))))) (d_cons (v_tup (d_cons v_int (d_cons v_int (d_cons v_int (d_cons v_int (d_cons v_int (d_cons v_int d_nil))))))) d_nil))))))) d_nil))))
    (s_cons (s_if (v_not (v_tv (v_fkM h_w_asked hr (by decide) (by rfl) tk (m_cons (pv 0 (hv := Or.inl rfl)) (d_cons v_str (d_cons (v_frz (v_lst (d_cons (v_var (pv 2 (hv := Or.inl rfl))) d_nil))) (d_cons (v_tup (d_cons v_str (d_cons v_bl d_nil))) d_nil))))))) (s_one (s_ret v_bl)) s_nil)
    (s_one (s_if (v_not (v_tv (v_fkM h_w_asked hr (by decide) (by rfl) tk (m_cons (pv 0 (hv := Or.inl rfl)) (d_cons (v_var (pv 1 (hv := Or.inl rfl))) (d_cons (v_frz (v_lst (d_cons (v_var (pv 2 (hv := Or.inl rfl))) (d_cons (v_var (pv 2 (hv := Or.inl rfl))) d_nil)))) (d_cons (v_tup (d_cons v_str (d_cons v_str (d_cons v_str d_nil)))) d_nil))))))) (s_one (s_ret v_bl)) s_nil)))))
    (s_one (s_ret v_bl)))

theorem sc_w_odd : FnScope ["store"] ["store"] (defScope st_w_odd) := ⟨rfl, rfl, rfl, by decide +kernel, rfl, by decide +kernel, by decide +kernel⟩
theorem ok_w_odd {y : Str} (T : Tx P K mg) (h_w_pick : FK P w K mg base 3 2 "_law_pick" ["store", "items"] F_w_pick) (F : ∃ fd, FunD K "_law_odd" "_law_odd" (defArgs st_w_odd) (defBody st_w_odd) (defScope st_w_odd) [] [] (He.ga K y) fd) (g : mg y = some (.ref (He.ga K y))) : FK P w K mg base 4 1 y ["store"] F_w_odd :=
  fk_mk (k := 3) F g sc_w_odd rfl (by decide) (fun _ _ _ _ _ _ us hl => match us, hl with | [_], _ => rfl) fun f cdv A outer s H E μ hr tk po =>
    have sc := sc_w_odd
    (s_one (s_ret (v_fkM h_w_pick hr (by decide) (by rfl) tk (m_cons (pv 0 (hv := Or.inl rfl)) (d_cons (v_frz (v_lst (d_cons v_non (d_cons v_bl (d_cons v_bl (d_cons v_int (d_cons v_int (d_cons (v_un un_neg o_neg v_int) (d_cons v_str (d_cons v_str (d_cons v_str (d_cons (v_tup (d_cons v_str d_nil)) (d_cons (v_tup (d_cons v_str d_nil)) (d_cons (v_tup (d_cons v_str (d_cons v_int d_nil))) (d_cons v_dnew (d_cons (v_tup (d_cons v_str (d_cons (v_tup d_nil) d_nil))) (d_cons (v_tup (d_cons v_str (d_cons (v_tup (d_cons (v_tup d_nil) d_nil)) d_nil))) (d_cons (v_frz (v_lst (d_cons (v_frz (v_lst d_nil)) d_nil))) (d_cons (v_dic (ks := [.inr "ring"]) (pps_cons pe_str v_int pps_nil)) (d_cons (v_tup (d_cons v_str (d_cons v_non d_nil))) (d_cons (v_tup (d_cons v_str (d_cons (v_tup (d_cons v_int (d_cons v_int d_nil))) d_nil))) (d_cons (v_tup (d_cons v_str d_nil)) (d_cons (v_tup (d_cons v_str d_nil)) (d_cons (v_tup (d_cons v_str d_nil)) (d_cons (v_tup (d_cons (v_tup (d_cons v_str (d_cons (v_tup d_nil) d_nil))) d_nil)) (d_cons (v_tup (d_cons v_str (d_cons (v_tup (d_cons v_str d_nil)) d_nil))) (d_cons (v_frz (v_lst (d_cons v_str (d_cons (v_tup (d_cons v_int d_nil)) d_nil)))) d_nil))))))))))))))))))))))))))) d_nil)))))

theorem sc_w_near : FnScope ["store", "d", "vector", "row", "place", "choice", "bent", "number"] ["store", "d"] (defScope st_w_near) := ⟨rfl, rfl, rfl, by decide +kernel, rfl, by decide +kernel, by decide +kernel⟩
theorem ok_w_near {y : Str} (T : Tx P K mg) (h_w_vector : FK P w K mg base 5 3 "_law_vector" ["store", "d", "size"] F_w_vector) (h_w_take : FK P w K mg base 2 2 "_law_take" ["store", "limit"] F_w_take) (h_w_pick : FK P w K mg base 3 2 "_law_pick" ["store", "items"] F_w_pick) (h_w_odd : FK P w K mg base 4 1 "_law_odd" ["store"] F_w_odd) (F : ∃ fd, FunD K "_law_near" "_law_near" (defArgs st_w_near) (defBody st_w_near) (defScope st_w_near) [] [] (He.ga K y) fd) (g : mg y = some (.ref (He.ga K y))) : FK P w K mg base 6 2 y ["store", "d"] F_w_near :=
  fk_mk (k := 5) F g sc_w_near rfl (by decide) (fun _ _ _ _ _ _ us hl => match us, hl with | [_, _], _ => rfl) fun f cdv A outer s H E μ hr tk po =>
    have sc := sc_w_near
    (s_cons (s_set sc.nd rfl (Or.inl rfl) (v_fkM h_w_vector hr (by decide) (by rfl) tk (m_cons (pv 0 (hv := Or.inl rfl)) (d_cons (v_var (pv 1 (hv := Or.inl rfl))) (d_cons v_int d_nil)))))
    (s_cons (s_setO sc.nd rfl (Or.inl rfl) (v_callTO call_list_of o_list (by rfl) (T.f_list) (by decide +kernel) (v_cons (pv 2 (hv := Or.inl rfl)) v_nil)))
    (s_cons (s_set sc.nd rfl (Or.inl rfl) (v_fkM h_w_take hr (by decide) (by rfl) tk (m_cons (pv 0 (hv := Or.inl rfl)) (d_cons (v_var (pv 1 (hv := Or.inl rfl))) d_nil))))
    (s_cons (s_set sc.nd rfl (Or.inl rfl) (v_fkM h_w_take hr (by decide) (by rfl) tk (m_cons (pv 0 (hv := Or.inl rfl)) (d_cons v_int d_nil))))
    (s_cons (s_if (v_tcmp op_lt o_cmpI.s2 (pv 5 (hv := Or.inl rfl)) v_int (nomark _)) (s_cons (s_set sc.nd rfl (Or.inl rfl) (v_frz (v_lst (d_cons (v_cmp op_eq o_eq.s2 (v_ix ix_seq o_ix (pv 3 (hv := Or.inl rfl)) (pv 4 (hv := Or.inl rfl)) (fun _ _ => rfl)) v_int (nomark _)) (d_cons (v_callT (call_strD hr) o_str (by rfl) (T.f_str) (by decide +kernel) (v_cons (v_ix ix_seq o_ix (pv 3 (hv := Or.inl rfl)) (pv 4 (hv := Or.inl rfl)) (fun _ _ => rfl)) v_nil)) (d_cons (v_tup (d_cons (v_ix ix_seq o_ix (pv 3 (hv := Or.inl rfl)) (pv 4 (hv := Or.inl rfl)) (fun _ _ => rfl)) d_nil)) (d_cons v_non (d_cons v_bl d_nil))))))))
    (s_one (s_put (pv 3 (hv := Or.inl rfl)) (v_var (pv 4 (hv := Or.inl rfl))) (v_ix ix_seq o_ix (pv 6 (hv := Or.inl rfl)) (pv 5 (hv := Or.inl rfl)) (fun _ _ => rfl))))) (s_one (s_if (v_tcmp op_lt o_cmpI.s2 (pv 5 (hv := Or.inl rfl)) v_int (nomark _)) (s_one (s_set sc.nd rfl (Or.inl rfl) (v_ix ix_seq o_ix (v_frz (v_lst (d_cons (v_bin op_addA o_add (pv 3 (hv := Or.inl rfl)) (v_bin op_mulA o_mul (v_frz (v_lst (d_cons v_int d_nil))) (v_bin op_sub o_sub v_int (pv 1 (hv := Or.inl rfl))))) (d_cons (v_frz (v_lc (own := [("number", 7)]) (show _ from by simp [tgIn]) rfl sc.nd (i_seq (v_var (pv 3 (hv := Or.inl rfl)))) (blkOk_by (by kernel_rfl)) (fun _ _ _ _ _ => (g_nm sc.nd rfl (Or.inl rfl))) (fun _ _ _ _ _ => t_yes) (fun _ _ _ _ _ => (v_bin op_mulA o_mul v_int (pv 7 (hv := Or.inl rfl)))))) (d_cons (v_frz (v_lst (d_cons (v_var (pv 2 (hv := Or.inl rfl))) d_nil))) d_nil))))) (v_bin op_sub o_sub (pv 5 (hv := Or.inl rfl)) v_int) (fun _ _ => rfl)))) (s_one (s_ret (v_fkM h_w_pick hr (by decide) (by rfl) tk (m_cons (pv 0 (hv := Or.inl rfl)) (d_cons (v_frz (v_lst (d_cons (v_dic (ks := [.inl 0]) (pps_cons pe_int (v_ix ix_seq o_ix (pv 3 (hv := Or.inl rfl)) v_int (fun _ _ => rfl)) pps_nil)) (d_cons (v_callT (call_strD hr) o_str (by rfl) (T.f_str) (by decide +kernel) (v_cons (pv 2 (hv := Or.inl rfl)) v_nil)) (d_cons (v_fkM h_w_odd hr (by decide) (by rfl) tk (m_cons (pv 0 (hv := Or.inl rfl)) d_nil)) d_nil))))) d_nil))))))))
    (s_cons (s_if (v_tcmp op_eq o_eq.s2 (v_fkM h_w_take hr (by decide) (by rfl) tk (m_cons (pv 0 (hv := Or.inl rfl)) (d_cons v_int d_nil))) v_int (nomark _)) (s_one (s_ret (v_callT call_tuple_of o_tuple (by rfl) (T.f_tuple) (by decide +kernel) (v_cons (pv 3 (hv := Or.inl rfl)) v_nil)))) s_nil)
    (s_one (s_ret (v_var (pv 3 (hv := Or.inl rfl)))))))))))

theorem sc_p_common : FnScope ["a", "b", "low", "high"] ["a", "b"] (defScope st_p_common) := ⟨rfl, rfl, rfl, by decide +kernel, rfl, by decide +kernel, by decide +kernel⟩
theorem ok_p_common {y : Str} (T : Tx P K mg)  (F : ∃ fd, FunD K "common" "common" (defArgs st_p_common) (defBody st_p_common) (defScope st_p_common) [] [] (He.ga K y) fd) (g : mg y = some (.ref (He.ga K y))) : FK P w K mg base 1 2 y ["a", "b"] F_p_common :=
  fk_mk (k := 0) F g sc_p_common rfl (by decide) (fun _ _ _ _ _ _ us hl => match us, hl with | [_, _], _ => rfl) fun f cdv A outer s H E μ hr tk po =>
    have sc := sc_p_common
    (s_cons (s_set sc.nd rfl (Or.inl rfl) (v_callB call_abs o_abs (by rfl) (T.f_abs) (by decide +kernel) (v_cons (pv 0 (hv := Or.inl rfl)) v_nil)))
    (s_cons (s_set sc.nd rfl (Or.inl rfl) (v_callB call_abs o_abs (by rfl) (T.f_abs) (by decide +kernel) (v_cons (pv 1 (hv := Or.inl rfl)) v_nil)))
    (s_cons (s_while (fuel := fuelE) (po E) (v_tcmp op_ne o_ne.s2 (pv 3 (hv := Or.inl rfl)) v_int (nomark _)) (s_one (s_par rfl sc.nd rfl rfl (by decide) rfl rfl (d_cons (v_var (pv 3 (hv := Or.inl rfl))) (d_cons (v_bin op_modN o_mod (pv 2 (hv := Or.inl rfl)) (pv 3 (hv := Or.inl rfl))) d_nil)) (by rfl))))
    (s_one (s_ret (v_var (pv 2 (hv := Or.inl rfl))))))))

theorem sc_i_Point : FnScope ["self", "nums", "den", "shared", "num"] ["self", "nums", "den"] (defScope st_i_Point) := ⟨rfl, rfl, rfl, by decide +kernel, rfl, by decide +kernel, by decide +kernel⟩
theorem ok_i_Point (T : Tx P K mg) (h_p_common_points : FK P w K mg base 1 2 "common_points" ["a", "b"] F_p_common) (M : ∃ f, Mk K (He.ga K "Point") f ∧ ∃ fd, FunD K "__init__" "Point.__init__" (defArgs st_i_Point) (defBody st_i_Point) (defScope st_i_Point) [] [("den", V.int 1)] f fd) (gC : mg "Point" = some (.ref (He.ga K "Point"))) : MkC P w K mg base 4 1 "Point" [] [.int 1] F_i_Point :=
  mkC_mk (k := 3) M gC (by simp) [("den", V.int 1)] (fun _ h => h) (fun _ => (.cons (.int _) .nil)) rfl sc_i_Point rfl (by decide)
    (fun D doc pm an cdv ct us mv ws l1 l2 l3 => match us, mv, ws, l1, l2, l3 with | [_, _], [_], [], _, _, _ => ⟨_, _, _, _, _, _, rfl, rfl, rfl⟩)
    fun f cdv A outer s H E μ hr tk po =>
    have sc := sc_i_Point
    (s_cons (s_if (v_not (v_tchain op_le op_le o_cmpI o_cmpI v_int (v_callB call_len o_len (by rfl) (T.f_len) (by decide +kernel) (v_cons (pv 1 (hv := Or.inl rfl)) v_nil)) v_int)) (s_one (s_raise T.x_BadCall hr tk (by rfl) v_str)) s_nil)
    (s_cons (s_if (v_tcmp op_lt o_cmpI.s2 (pv 2 (hv := Or.inl rfl)) v_int (nomark _)) (s_one (s_raise T.x_BadCall hr tk (by rfl) v_str)) s_nil)
    (s_cons (s_set sc.nd rfl (Or.inr rfl) (v_var (pv 2 (hv := Or.inl rfl))))
    (s_cons (s_for (po E) rfl (i_seq (v_var (pv 1 (hv := Or.inl rfl)))) (g_nm sc.nd rfl (Or.inl rfl)) (s_one (s_set sc.nd rfl (Or.inr rfl) (v_fk h_p_common_points hr (by decide) (by rfl) tk (d_cons (v_var (pv 3 (hv := Or.inr (Or.inl rfl)))) (d_cons (v_var (pv 4 (hv := Or.inl rfl))) d_nil))))))
    (s_cons (s_fld T.fl_nums (pv 0 (hv := Or.inl rfl)) (v_callT call_tuple_of o_tuple (by rfl) (T.f_tuple) (by decide +kernel) (v_cons (v_frz (v_lc (own := [("num", 4)]) (show _ from by simp [tgIn]) rfl sc.nd (i_seq (v_var (pv 1 (hv := Or.inl rfl)))) (blkOk_by (by kernel_rfl)) (fun _ _ _ _ _ => (g_nm sc.nd rfl (Or.inl rfl))) (fun _ _ _ _ _ => t_yes) (fun _ _ _ _ _ => (v_bin op_fdivA o_fdiv (pv 4 (hv := Or.inl rfl)) (pv 3 (hv := Or.inr (Or.inl rfl))))))) v_nil)))
    (s_cons (s_fld T.fl_den (pv 0 (hv := Or.inl rfl)) (v_bin op_fdivA o_fdiv (pv 2 (hv := Or.inl rfl)) (pv 3 (hv := Or.inr (Or.inl rfl)))))
    (s_one (s_fld T.fl_dim (pv 0 (hv := Or.inl rfl)) (v_callB call_len o_len (by rfl) (T.f_len) (by decide +kernel) (v_cons (v_fld T.fl_nums (pv 0 (hv := Or.inl rfl))) v_nil))))))))))

theorem sc_w_kinds : FnScope ["store", "turn", "d", "value", "kept", "vector"] ["store"] (defScope st_w_kinds) := ⟨rfl, rfl, rfl, by decide +kernel, rfl, by decide +kernel, by decide +kernel⟩
theorem ok_w_kinds {y : Str} (T : Tx P K mg) (h_w_take : FK P w K mg base 2 2 "_law_take" ["store", "limit"] F_w_take) (h_w_near : FK P w K mg base 6 2 "_law_near" ["store", "d"] F_w_near) (h_w_alike : FK P w K mg base 2 2 "_law_alike" ["told", "due"] F_w_alike) (h_w_try : FK P w K mg base 8 2 "_law_try" ["deed", "given"] F_w_try) (h_w_vector : FK P w K mg base 5 3 "_law_vector" ["store", "d", "size"] F_w_vector) (h_w_asked : FK P w K mg base 9 4 "_law_asked" ["store", "deed", "things", "due"] F_w_asked) (m_Point : MkC P w K mg base 4 1 "Point" [] [.int 1] F_i_Point) (F : ∃ fd, FunD K "_law_kinds" "_law_kinds" (defArgs st_w_kinds) (defBody st_w_kinds) (defScope st_w_kinds) [] [] (He.ga K y) fd) (g : mg y = some (.ref (He.ga K y))) : FK P w K mg base 10 1 y ["store"] F_w_kinds :=
  fk_mk (k := 9) F g sc_w_kinds rfl (by decide) (fun _ _ _ _ _ _ us hl => match us, hl with | [_], _ => rfl) fun f cdv A outer s H E μ hr tk po =>
    have sc := sc_w_kinds
    (s_cons (s_for (po E) rfl (i_rng1 (by rfl) (T.f_range) (v_cons v_int v_nil)) (g_nm sc.nd rfl (Or.inl rfl)) (s_cons (s_set sc.nd rfl (Or.inl rfl) (v_bin op_addA o_add v_int (v_fkM h_w_take hr (by decide) (by rfl) tk (m_cons (pv 0 (hv := Or.inl rfl)) (d_cons v_int d_nil)))))
    (s_cons (s_set sc.nd rfl (Or.inl rfl) (v_fkM h_w_near hr (by decide) (by rfl) tk (m_cons (pv 0 (hv := Or.inl rfl)) (d_cons (v_var (pv 2 (hv := Or.inl rfl))) d_nil))))
    (s_cons (s_set sc.nd rfl (Or.inl rfl) (v_callB (call_reprD hr) o_repr (by rfl) (T.f_repr) (by decide +kernel) (v_cons (pv 3 (hv := Or.inl rfl)) v_nil)))
    (s_cons (s_if (PW.pt (v_or (v_not (v_tv (v_fk h_w_alike hr (by decide) (by rfl) tk (d_cons (v_fk h_w_try hr (by decide) (by rfl) tk (d_cons v_str (d_cons (v_frz (v_lst (d_cons (v_var (pv 3 (hv := Or.inl rfl))) d_nil))) d_nil))) (d_cons (v_tup (d_cons v_str (d_cons v_bl d_nil))) d_nil))))) (v_or1 (v_tcmp op_ne o_ne.s2 (v_callB (call_reprD hr) o_repr (by rfl) (T.f_repr) (by decide +kernel) (v_cons (pv 3 (hv := Or.inl rfl)) v_nil)) (pv 4 (hv := Or.inl rfl)) (nomark _))))) (s_one (s_ret v_bl)) s_nil)
    (s_cons (s_set sc.nd rfl (Or.inl rfl) (v_fkM h_w_vector hr (by decide) (by rfl) tk (m_cons (pv 0 (hv := Or.inl rfl)) (d_cons (v_var (pv 2 (hv := Or.inl rfl))) (d_cons v_int d_nil)))))
    (s_cons (s_if (v_not (v_tv (v_fk h_w_alike hr (by decide) (by rfl) tk (d_cons (v_fk h_w_try hr (by decide) (by rfl) tk (d_cons v_str (d_cons (v_frz (v_lst (d_cons (v_make m_Point hr (by decide) (by rfl) tk (d_cons (v_var (pv 5 (hv := Or.inl rfl))) d_nil) k_nil) d_nil))) d_nil))) (d_cons (v_tup (d_cons v_str (d_cons v_bl d_nil))) d_nil))))) (s_one (s_ret v_bl)) s_nil)
    (s_one (s_if (v_not (v_tv (v_fkM h_w_asked hr (by decide) (by rfl) tk (m_cons (pv 0 (hv := Or.inl rfl)) (d_cons v_str (d_cons (v_frz (v_lst (d_cons (v_var (pv 5 (hv := Or.inl rfl))) d_nil))) (d_cons (v_tup (d_cons v_str (d_cons v_bl d_nil))) d_nil))))))) (s_one (s_ret v_bl)) s_nil)))))))))
    (s_one (s_ret v_bl)))

theorem sc_w_dots_told : FnScope ["store", "turn", "d", "one", "two", "due", "other", "k"] ["store"] (defScope st_w_dots_told) := ⟨rfl, rfl, rfl, by decide +kernel, rfl, by decide +kernel, by decide +kernel⟩
theorem ok_w_dots_told {y : Str} (T : Tx P K mg) (h_w_take : FK P w K mg base 2 2 "_law_take" ["store", "limit"] F_w_take) (h_w_built : FK P w K mg base 6 2 "_law_built" ["store", "d"] F_w_built) (h_w_asked : FK P w K mg base 9 4 "_law_asked" ["store", "deed", "things", "due"] F_w_asked) (h_w_mixed : FK P w K mg base 3 2 "_law_mixed" ["store", "items"] F_w_mixed) (F : ∃ fd, FunD K "_law_dots_told" "_law_dots_told" (defArgs st_w_dots_told) (defBody st_w_dots_told) (defScope st_w_dots_told) [] [] (He.ga K y) fd) (g : mg y = some (.ref (He.ga K y))) : FK P w K mg base 10 1 y ["store"] F_w_dots_told :=
  fk_mk (k := 9) F g sc_w_dots_told rfl (by decide) (fun _ _ _ _ _ _ us hl => match us, hl with | [_], _ => rfl) fun f cdv A outer s H E μ hr tk po =>
    have sc := sc_w_dots_told
    (s_cons (s_for (po E) rfl (i_rng1 (by rfl) (T.f_range) (v_cons v_int v_nil)) (g_nm sc.nd rfl (Or.inl rfl)) (s_cons (s_set sc.nd rfl (Or.inl rfl) (v_bin op_addA o_add v_int (v_fkM h_w_take hr (by decide) (by rfl) tk (m_cons (pv 0 (hv := Or.inl rfl)) (d_cons v_int d_nil)))))
    (s_cons (s_set sc.nd rfl (Or.inr rfl) (v_fkM h_w_built hr (by decide) (by rfl) tk (m_cons (pv 0 (hv := Or.inl rfl)) (d_cons (v_var (pv 2 (hv := Or.inl rfl))) d_nil))))
    (s_cons (s_set sc.nd rfl (Or.inr rfl) (v_fkM h_w_built hr (by decide) (by rfl) tk (m_cons (pv 0 (hv := Or.inl rfl)) (d_cons (v_var (pv 2 (hv := Or.inl rfl))) d_nil))))
    (s_cons (s_set sc.nd rfl (Or.inl rfl) (v_bin op_fdivA o_fdiv (v_callB (cr_sum rfl) o_sum (by rfl) (T.f_sum) (by decide +kernel) (v_cons (v_frz (v_lc (own := [("k", 7)]) (show _ from by simp [tgIn]) rfl sc.nd (i_rng1 (by rfl) (T.f_range) (v_cons (pv 2 (hv := Or.inl rfl)) v_nil)) (blkOk_by (by kernel_rfl)) (fun _ _ _ _ _ => (g_nm sc.nd rfl (Or.inl rfl))) (fun _ _ _ _ _ => t_yes) (fun _ _ _ _ _ => (v_bin op_sub o_sub (v_bin op_powA o_pow (v_bin op_addA o_add (v_ix ix_seq o_ix (pv 3 (hv := Or.inr (Or.inl rfl))) (pv 7 (hv := Or.inl rfl)) (fun _ _ => rfl)) (v_ix ix_seq o_ix (pv 4 (hv := Or.inr (Or.inl rfl))) (pv 7 (hv := Or.inl rfl)) (fun _ _ => rfl))) v_int) (v_bin op_powA o_pow (v_bin op_sub o_sub (v_ix ix_seq o_ix (pv 3 (hv := Or.inr (Or.inl rfl))) (pv 7 (hv := Or.inl rfl)) (fun _ _ => rfl)) (v_ix ix_seq o_ix (pv 4 (hv := Or.inr (Or.inl rfl))) (pv 7 (hv := Or.inl rfl)) (fun _ _ => rfl))) v_int))))) v_nil)) v_int))
    (s_cons (s_if (v_not (v_tv (v_fkM h_w_asked hr (by decide) (by rfl) tk (m_cons (pv 0 (hv := Or.inl rfl)) (d_cons v_str (d_cons (v_frz (v_lst (d_cons (v_var (pv 3 (hv := Or.inr (Or.inl rfl)))) (d_cons (v_var (pv 4 (hv := Or.inr (Or.inl rfl)))) d_nil)))) (d_cons (v_tup (d_cons v_str (d_cons (v_var (pv 5 (hv := Or.inl rfl))) d_nil))) d_nil))))))) (s_one (s_ret v_bl)) s_nil)
    (s_cons (s_set sc.nd rfl (Or.inl rfl) (v_fkM h_w_built hr (by decide) (by rfl) tk (m_cons (pv 0 (hv := Or.inl rfl)) (d_cons (v_bin op_addA o_add v_int (v_bin op_modN o_mod (v_callT call_int1 o_int (by rfl) (T.f_int) (by decide +kernel) (v_cons (v_bin op_addA o_add (pv 2 (hv := Or.inl rfl)) (v_fkM h_w_take hr (by decide) (by rfl) tk (m_cons (pv 0 (hv := Or.inl rfl)) (d_cons v_int d_nil)))) v_nil)) v_int)) d_nil))))
    (s_one (s_if (v_not (v_tv (v_fkM h_w_asked hr (by decide) (by rfl) tk (m_cons (pv 0 (hv := Or.inl rfl)) (d_cons v_str (d_cons (v_fkM h_w_mixed hr (by decide) (by rfl) tk (m_cons (pv 0 (hv := Or.inl rfl)) (d_cons (v_frz (v_lst (d_cons (v_var (pv 3 (hv := Or.inr (Or.inl rfl)))) (d_cons (v_var (pv 6 (hv := Or.inl rfl))) d_nil)))) d_nil))) (d_cons (v_tup (d_cons v_str (d_cons v_str (d_cons v_str d_nil)))) d_nil))))))) (s_one (s_ret v_bl)) s_nil)))))))))
    (s_one (s_ret v_bl)))

theorem sc_w_turned : FnScope ["row", "number"] ["row"] (defScope st_w_turned) := ⟨rfl, rfl, rfl, by decide +kernel, rfl, by decide +kernel, by decide +kernel⟩
theorem ok_w_turned {y : Str} (T : Tx P K mg)  (F : ∃ fd, FunD K "_law_turned" "_law_turned" (defArgs st_w_turned) (defBody st_w_turned) (defScope st_w_turned) [] [] (He.ga K y) fd) (g : mg y = some (.ref (He.ga K y))) : FK P w K mg base 1 1 y ["row"] F_w_turned :=
  fk_mk (k := 0) F g sc_w_turned rfl (by decide) (fun _ _ _ _ _ _ us hl => match us, hl with | [_], _ => rfl) fun f cdv A outer s H E μ hr tk po =>
    have sc := sc_w_turned
    (s_one (s_ret (v_callT call_tuple_of o_tuple (by rfl) (T.f_tuple) (by decide +kernel) (v_cons (v_frz (v_lc (own := [("number", 1)]) (show _ from by simp [tgIn]) rfl sc.nd (i_seq (v_var (pv 0 (hv := Or.inl rfl)))) (blkOk_by (by kernel_rfl)) (fun _ _ _ _ _ => (g_nm sc.nd rfl (Or.inl rfl))) (fun _ _ _ _ _ => t_yes) (fun _ _ _ _ _ => (v_un un_neg o_neg (pv 1 (hv := Or.inl rfl)))))) v_nil))))

theorem sc_w_up : FnScope ["row", "found", "number"] ["row"] (defScope st_w_up) := ⟨rfl, rfl, rfl, by decide +kernel, rfl, by decide +kernel, by decide +kernel⟩
theorem ok_w_up {y : Str} (T : Tx P K mg) (h_w_prim : FK P w K mg base 3 1 "_law_prim" ["row"] F_w_prim) (F : ∃ fd, FunD K "_law_up" "_law_up" (defArgs st_w_up) (defBody st_w_up) (defScope st_w_up) [] [] (He.ga K y) fd) (g : mg y = some (.ref (He.ga K y))) : FK P w K mg base 4 1 y ["row"] F_w_up :=
  fk_mk (k := 3) F g sc_w_up rfl (by decide) (fun _ _ _ _ _ _ us hl => match us, hl with | [_], _ => rfl) fun f cdv A outer s H E μ hr tk po =>
    have sc := sc_w_up
    (s_cons (s_set sc.nd rfl (Or.inl rfl) (v_fk h_w_prim hr (by decide) (by rfl) tk (d_cons (v_var (pv 0 (hv := Or.inl rfl))) d_nil)))
    (s_one (s_ret (v_callB (call_maxT hr rfl) o_maxT (by rfl) (T.f_max) (by decide +kernel) (v_cons (pv 1 (hv := Or.inl rfl)) (v_cons (v_callT call_tuple_of o_tuple (by rfl) (T.f_tuple) (by decide +kernel) (v_cons (v_frz (v_lc (own := [("number", 2)]) (show _ from by simp [tgIn]) rfl sc.nd (i_seq (v_var (pv 1 (hv := Or.inl rfl)))) (blkOk_by (by kernel_rfl)) (fun _ _ _ _ _ => (g_nm sc.nd rfl (Or.inl rfl))) (fun _ _ _ _ _ => t_yes) (fun _ _ _ _ _ => (v_un un_neg o_neg (pv 2 (hv := Or.inl rfl)))))) v_nil)) v_nil))))))

theorem sc_w_due : FnScope ["deed", "row", "great", "number"] ["deed", "row"] (defScope st_w_due) := ⟨rfl, rfl, rfl, by decide +kernel, rfl, by decide +kernel, by decide +kernel⟩
theorem ok_w_due {y : Str} (T : Tx P K mg) (h_w_content : FK P w K mg base 2 1 "_law_content" ["row"] F_w_content) (h_w_turned : FK P w K mg base 1 1 "_law_turned" ["row"] F_w_turned) (h_w_up : FK P w K mg base 4 1 "_law_up" ["row"] F_w_up) (h_w_prim : FK P w K mg base 3 1 "_law_prim" ["row"] F_w_prim) (F : ∃ fd, FunD K "_law_due" "_law_due" (defArgs st_w_due) (defBody st_w_due) (defScope st_w_due) [] [] (He.ga K y) fd) (g : mg y = some (.ref (He.ga K y))) : FK P w K mg base 5 2 y ["deed", "row"] F_w_due :=
  fk_mk (k := 4) F g sc_w_due rfl (by decide) (fun _ _ _ _ _ _ us hl => match us, hl with | [_, _], _ => rfl) fun f cdv A outer s H E μ hr tk po =>
    have sc := sc_w_due
    (s_cons (s_if (v_tcmp op_eq o_eq.s2 (pv 0 (hv := Or.inl rfl)) v_str (nomark _)) (s_cons (s_set sc.nd rfl (Or.inl rfl) (v_callB (cr_max rfl) o_maxL (by rfl) (T.f_max) (by decide +kernel) (v_cons (v_frz (v_lc (own := [("number", 3)]) (show _ from by simp [tgIn]) rfl sc.nd (i_seq (v_var (pv 1 (hv := Or.inl rfl)))) (blkOk_by (by kernel_rfl)) (fun _ _ _ _ _ => (g_nm sc.nd rfl (Or.inl rfl))) (fun _ _ _ _ _ => t_yes) (fun _ _ _ _ _ => (v_callB call_abs o_abs (by rfl) (T.f_abs) (by decide +kernel) (v_cons (pv 3 (hv := Or.inl rfl)) v_nil))))) v_nil)))
    (s_one (s_ret (v_tup (d_cons v_str (d_cons (v_andV (v_cmp op_eq o_eq.s2 (v_fk h_w_content hr (by decide) (by rfl) tk (d_cons (v_var (pv 1 (hv := Or.inl rfl))) d_nil)) v_int (nomark _)) (v_one (v_cmp op_le o_cmpI.s2 (pv 2 (hv := Or.inl rfl)) (v_bin op_powA o_pow v_int v_int) (nomark _)))) d_nil)))))) s_nil)
    (s_cons (s_if (v_tcmp op_eq o_eq.s2 (pv 0 (hv := Or.inl rfl)) v_str (nomark _)) (s_one (s_ret (v_tup (d_cons v_str (d_cons (v_fk h_w_turned hr (by decide) (by rfl) tk (d_cons (v_var (pv 1 (hv := Or.inl rfl))) d_nil)) d_nil))))) s_nil)
    (s_cons (s_if (v_tcmp op_eq o_eq.s2 (v_fk h_w_content hr (by decide) (by rfl) tk (d_cons (v_var (pv 1 (hv := Or.inl rfl))) d_nil)) v_int (nomark _)) (s_one (s_ret (v_tup (d_cons v_str (d_cons v_str (d_cons v_str d_nil)))))) s_nil)
    (s_cons (s_if (v_tcmp op_eq o_eq.s2 (pv 0 (hv := Or.inl rfl)) v_str (nomark _)) (s_one (s_ret (v_tup (d_cons v_str (d_cons (v_fk h_w_up hr (by decide) (by rfl) tk (d_cons (v_var (pv 1 (hv := Or.inl rfl))) d_nil)) d_nil))))) s_nil)
    (s_one (s_ret (v_tup (d_cons v_str (d_cons (v_fk h_w_prim hr (by decide) (by rfl) tk (d_cons (v_var (pv 1 (hv := Or.inl rfl))) d_nil)) d_nil)))))))))

theorem sc_p_law : FnScope ["script", "store", "turn", "d", "row", "deed"] ["script"] (defScope st_p_law) := ⟨rfl, rfl, rfl, by decide +kernel, rfl, by decide +kernel, by decide +kernel⟩
theorem ok_p_law {y : Str} (T : Tx P K mg) (h_w_store : FKO P w K mg base 2 1 "_law_store" ["script"] F_w_store) (h_w_take : FK P w K mg base 2 2 "_law_take" ["store", "limit"] F_w_take) (h_w_built : FK P w K mg base 6 2 "_law_built" ["store", "d"] F_w_built) (h_w_mixed : FK P w K mg base 3 2 "_law_mixed" ["store", "items"] F_w_mixed) (h_w_asked : FK P w K mg base 9 4 "_law_asked" ["store", "deed", "things", "due"] F_w_asked) (h_w_due : FK P w K mg base 5 2 "_law_due" ["deed", "row"] F_w_due) (h_w_dots_told : FK P w K mg base 10 1 "_law_dots_told" ["store"] F_w_dots_told) (h_w_kinds : FK P w K mg base 10 1 "_law_kinds" ["store"] F_w_kinds) (h_w_lengths_told : FK P w K mg base 10 1 "_law_lengths_told" ["store"] F_w_lengths_told) (h_w_sums_told : FK P w K mg base 10 1 "_law_sums_told" ["store"] F_w_sums_told) (F : ∃ fd, FunD K "law" "law" (defArgs st_p_law) (defBody st_p_law) (defScope st_p_law) [] [] (He.ga K y) fd) (g : mg y = some (.ref (He.ga K y))) : FK P w K mg base 11 1 y ["script"] F_p_law :=
  fk_mk (k := 10) F g sc_p_law rfl (by decide) (fun _ _ _ _ _ _ us hl => match us, hl with | [_], _ => rfl) fun f cdv A outer s H E μ hr tk po =>
    have sc := sc_p_law
    (s_cons (s_setO sc.nd rfl (Or.inl rfl) (v_fkO h_w_store hr (by decide) (by rfl) tk (d_cons (v_var (pv 0 (hv := Or.inl rfl))) d_nil)))
    (s_cons (s_for (po E) rfl (i_rng1 (by rfl) (T.f_range) (v_cons v_int v_nil)) (g_nm sc.nd rfl (Or.inl rfl)) (s_cons (s_set sc.nd rfl (Or.inl rfl) (v_bin op_addA o_add v_int (v_fkM h_w_take hr (by decide) (by rfl) tk (m_cons (pv 1 (hv := Or.inl rfl)) (d_cons v_int d_nil)))))
    (s_cons (s_set sc.nd rfl (Or.inl rfl) (v_fkM h_w_built hr (by decide) (by rfl) tk (m_cons (pv 1 (hv := Or.inl rfl)) (d_cons (v_var (pv 3 (hv := Or.inl rfl))) d_nil))))
    (s_one (s_for (po E) rfl (i_seq (v_fkM h_w_mixed hr (by decide) (by rfl) tk (m_cons (pv 1 (hv := Or.inl rfl)) (d_cons (v_frz (v_lst (d_cons v_str (d_cons v_str (d_cons v_str (d_cons v_str d_nil)))))) d_nil)))) (g_nm sc.nd rfl (Or.inl rfl)) (s_one (s_if (v_not (v_tv (v_fkM h_w_asked hr (by decide) (by rfl) tk (m_cons (pv 1 (hv := Or.inl rfl)) (d_cons (v_var (pv 5 (hv := Or.inl rfl))) (d_cons (v_frz (v_lst (d_cons (v_var (pv 4 (hv := Or.inl rfl))) d_nil))) (d_cons (v_fk h_w_due hr (by decide) (by rfl) tk (d_cons (v_var (pv 5 (hv := Or.inl rfl))) (d_cons (v_var (pv 4 (hv := Or.inl rfl))) d_nil))) d_nil))))))) (s_one (s_ret v_bl)) s_nil)))))))
    (s_cons (s_if (PW.pt (v_or (v_not (v_tv (v_fkM h_w_kinds hr (by decide) (by rfl) tk (m_cons (pv 1 (hv := Or.inl rfl)) d_nil)))) (v_or1 (v_not (v_tv (v_fkM h_w_dots_told hr (by decide) (by rfl) tk (m_cons (pv 1 (hv := Or.inl rfl)) d_nil))))))) (s_one (s_ret v_bl)) s_nil)
    (s_one (s_ret (v_andV (v_fkM h_w_sums_told hr (by decide) (by rfl) tk (m_cons (pv 1 (hv := Or.inl rfl)) d_nil)) (v_one (v_fkM h_w_lengths_told hr (by decide) (by rfl) tk (m_cons (pv 1 (hv := Or.inl rfl)) d_nil)))))))))
end
end Vi

namespace Vi
open PySem PySem.Spec PyProof.Rows L2
def d_w_mix : He.DefD := ⟨("_law_mix", none), "_law_mix", "_law_mix", defArgs st_w_mix, defBody st_w_mix, defScope st_w_mix, [], []⟩
def d_w_store : He.DefD := ⟨("_law_store", none), "_law_store", "_law_store", defArgs st_w_store, defBody st_w_store, defScope st_w_store, [], []⟩
def d_w_take : He.DefD := ⟨("_law_take", none), "_law_take", "_law_take", defArgs st_w_take, defBody st_w_take, defScope st_w_take, [], []⟩
def d_w_small : He.DefD := ⟨("_law_small", none), "_law_small", "_law_small", defArgs st_w_small, defBody st_w_small, defScope st_w_small, [], []⟩
def d_w_pick : He.DefD := ⟨("_law_pick", none), "_law_pick", "_law_pick", defArgs st_w_pick, defBody st_w_pick, defScope st_w_pick, [], []⟩
def d_w_row : He.DefD := ⟨("_law_row", none), "_law_row", "_law_row", defArgs st_w_row, defBody st_w_row, defScope st_w_row, [], []⟩
def d_w_great_vector : He.DefD := ⟨("_law_great_vector", none), "_law_great_vector", "_law_great_vector", defArgs st_w_great_vector, defBody st_w_great_vector, defScope st_w_great_vector, [], []⟩
def d_w_gcd : He.DefD := ⟨("_law_gcd", none), "_law_gcd", "_law_gcd", defArgs st_w_gcd, defBody st_w_gcd, defScope st_w_gcd, [], []⟩
def d_w_content : He.DefD := ⟨("_law_content", none), "_law_content", "_law_content", defArgs st_w_content, defBody st_w_content, defScope st_w_content, [], []⟩
def d_w_prim : He.DefD := ⟨("_law_prim", none), "_law_prim", "_law_prim", defArgs st_w_prim, defBody st_w_prim, defScope st_w_prim, [], []⟩
def d_w_vector : He.DefD := ⟨("_law_vector", none), "_law_vector", "_law_vector", defArgs st_w_vector, defBody st_w_vector, defScope st_w_vector, [], []⟩
def d_w_number : He.DefD := ⟨("_law_number", none), "_law_number", "_law_number", defArgs st_w_number, defBody st_w_number, defScope st_w_number, [], []⟩
def d_w_built : He.DefD := ⟨("_law_built", none), "_law_built", "_law_built", defArgs st_w_built, defBody st_w_built, defScope st_w_built, [], []⟩
def d_w_mixed : He.DefD := ⟨("_law_mixed", none), "_law_mixed", "_law_mixed", defArgs st_w_mixed, defBody st_w_mixed, defScope st_w_mixed, [], []⟩
def d_w_dressed : He.DefD := ⟨("_law_dressed", none), "_law_dressed", "_law_dressed", defArgs st_w_dressed, defBody st_w_dressed, defScope st_w_dressed, [], []⟩
def d_w_is_number : He.DefD := ⟨("_law_is_number", none), "_law_is_number", "_law_is_number", defArgs st_w_is_number, defBody st_w_is_number, defScope st_w_is_number, [], []⟩
def d_w_alike : He.DefD := ⟨("_law_alike", none), "_law_alike", "_law_alike", defArgs st_w_alike, defBody st_w_alike, defScope st_w_alike, [], []⟩
def d_p_check_row : He.DefD := ⟨("check_row", none), "check_row", "check_row", defArgs st_p_check_row, defBody st_p_check_row, defScope st_p_check_row, [], []⟩
def d_p_check_rows : He.DefD := ⟨("check_rows", none), "check_rows", "check_rows", defArgs st_p_check_rows, defBody st_p_check_rows, defScope st_p_check_rows, [], []⟩
def d_p_combination : He.DefD := ⟨("combination", none), "combination", "combination", defArgs st_p_combination, defBody st_p_combination, defScope st_p_combination, [], []⟩
def d_p_common_vectors : He.DefD := ⟨("common_vectors", none), "common", "common", defArgs st_p_common_vectors, defBody st_p_common_vectors, defScope st_p_common_vectors, [], []⟩
def d_p_divisor : He.DefD := ⟨("divisor", none), "divisor", "divisor", defArgs st_p_divisor, defBody st_p_divisor, defScope st_p_divisor, [], []⟩
def d_p_is_vector : He.DefD := ⟨("is_vector", none), "is_vector", "is_vector", defArgs st_p_is_vector, defBody st_p_is_vector, defScope st_p_is_vector, [], []⟩
def d_p_primitive : He.DefD := ⟨("primitive", none), "primitive", "primitive", defArgs st_p_primitive, defBody st_p_primitive, defScope st_p_primitive, [], []⟩
def d_p_turned_up : He.DefD := ⟨("turned_up", none), "turned_up", "turned_up", defArgs st_p_turned_up, defBody st_p_turned_up, defScope st_p_turned_up, [], []⟩
def d_p_upright : He.DefD := ⟨("upright", none), "upright", "upright", defArgs st_p_upright, defBody st_p_upright, defScope st_p_upright, [], []⟩
def d_p_contrary : He.DefD := ⟨("contrary", none), "contrary", "contrary", defArgs st_p_contrary, defBody st_p_contrary, defScope st_p_contrary, [], []⟩
def d_p_dot : He.DefD := ⟨("dot", none), "dot", "dot", defArgs st_p_dot, defBody st_p_dot, defScope st_p_dot, [], []⟩
def d_w_call : He.DefD := ⟨("_law_call", none), "_law_call", "_law_call", defArgs st_w_call, defBody st_w_call, defScope st_w_call, [], []⟩
def d_w_try : He.DefD := ⟨("_law_try", none), "_law_try", "_law_try", defArgs st_w_try, defBody st_w_try, defScope st_w_try, [], []⟩
def d_w_asked : He.DefD := ⟨("_law_asked", none), "_law_asked", "_law_asked", defArgs st_w_asked, defBody st_w_asked, defScope st_w_asked, [], []⟩
def d_w_sums_told : He.DefD := ⟨("_law_sums_told", none), "_law_sums_told", "_law_sums_told", defArgs st_w_sums_told, defBody st_w_sums_told, defScope st_w_sums_told, [], []⟩
def d_w_lengths_told : He.DefD := ⟨("_law_lengths_told", none), "_law_lengths_told", "_law_lengths_told", defArgs st_w_lengths_told, defBody st_w_lengths_told, defScope st_w_lengths_told, [], []⟩
def d_w_odd : He.DefD := ⟨("_law_odd", none), "_law_odd", "_law_odd", defArgs st_w_odd, defBody st_w_odd, defScope st_w_odd, [], []⟩
def d_w_near : He.DefD := ⟨("_law_near", none), "_law_near", "_law_near", defArgs st_w_near, defBody st_w_near, defScope st_w_near, [], []⟩
def d_p_common_points : He.DefD := ⟨("common_points", none), "common", "common", defArgs st_p_common, defBody st_p_common, defScope st_p_common, [], []⟩
def d_w_kinds : He.DefD := ⟨("_law_kinds", none), "_law_kinds", "_law_kinds", defArgs st_w_kinds, defBody st_w_kinds, defScope st_w_kinds, [], []⟩
def d_w_dots_told : He.DefD := ⟨("_law_dots_told", none), "_law_dots_told", "_law_dots_told", defArgs st_w_dots_told, defBody st_w_dots_told, defScope st_w_dots_told, [], []⟩
def d_w_turned : He.DefD := ⟨("_law_turned", none), "_law_turned", "_law_turned", defArgs st_w_turned, defBody st_w_turned, defScope st_w_turned, [], []⟩
def d_w_up : He.DefD := ⟨("_law_up", none), "_law_up", "_law_up", defArgs st_w_up, defBody st_w_up, defScope st_w_up, [], []⟩
def d_w_due : He.DefD := ⟨("_law_due", none), "_law_due", "_law_due", defArgs st_w_due, defBody st_w_due, defScope st_w_due, [], []⟩
def d_p_law : He.DefD := ⟨("law", none), "law", "law", defArgs st_p_law, defBody st_p_law, defScope st_p_law, [], []⟩
def d_i_Point : He.DefD := ⟨("Point", some "__init__"), "__init__", "Point.__init__", defArgs st_i_Point, defBody st_i_Point, defScope st_i_Point, [], [("den", .int 1)]⟩
def y_BadCall : IniD := ⟨"BadCall", "why", "BadCall.__init__", defArgs (inClass (top 4) 0), defBody (inClass (top 4) 0), defScope (inClass (top 4) 0)⟩
def y_BadVector : IniD := ⟨"BadVector", "why", "BadVector.__init__", defArgs (inClass (top 6) 0), defBody (inClass (top 6) 0), defScope (inClass (top 6) 0)⟩
def fn : List He.DefD := [d_w_mix, d_w_store, d_w_take, d_w_small, d_w_pick, d_w_row, d_w_great_vector, d_w_gcd, d_w_content, d_w_prim, d_w_vector, d_w_number, d_w_built, d_w_mixed, d_w_dressed, d_w_is_number, d_w_alike, d_p_check_row, d_p_check_rows, d_p_combination, d_p_common_vectors, d_p_divisor, d_p_is_vector, d_p_primitive, d_p_turned_up, d_p_upright, d_p_contrary, d_p_dot, d_w_call, d_w_try, d_w_asked, d_w_sums_told, d_w_lengths_told, d_w_odd, d_w_near, d_p_common_points, d_w_kinds, d_w_dots_told, d_w_turned, d_w_up, d_w_due, d_p_law, d_i_Point]
def xs : List IniD := [y_BadCall, y_BadVector]
def fa : List He.Fa := [.glo "_law_mix", .glo "_law_store", .glo "_law_take", .glo "_law_small", .glo "_law_pick", .glo "_law_row", .glo "_law_great_vector", .glo "_law_gcd", .glo "_law_content", .glo "_law_prim", .glo "_law_vector", .glo "_law_number", .glo "_law_built", .glo "_law_mixed", .glo "_law_dressed", .glo "_law_is_number", .glo "_law_alike", .glo "check_row", .glo "check_rows", .glo "combination", .glo "common_vectors", .glo "divisor", .glo "is_vector", .glo "primitive", .glo "turned_up", .glo "upright", .glo "contrary", .glo "dot", .glo "_law_call", .glo "_law_try", .glo "_law_asked", .glo "_law_sums_told", .glo "_law_lengths_told", .glo "_law_odd", .glo "_law_near", .glo "common_points", .glo "_law_kinds", .glo "_law_dots_told", .glo "_law_turned", .glo "_law_up", .glo "_law_due", .glo "law", .glo "BadCall", .glo "BadCell", .glo "BadCut", .glo "BadLattice", .glo "BadLoop", .glo "BadMap", .glo "BadMesh", .glo "BadRule", .glo "BadText", .glo "BadVector", .glo "BadWall", .glo "NoDirection", .glo "NotClean", .glo "NotGood", .glo "NotOnce", .glo "OwnError", .glo "Point", .glo "TooMuch", .free "ValueError", .free "abs", .free "bool", .free "dict", .free "int", .free "isinstance", .free "len", .free "list", .free "max", .free "min", .free "range", .free "repr", .free "str", .free "sum", .free "tuple", .free "zip", .free "super", .int "MOST_DIM" 4, .int "MOST_NUMBER" 1000000, .mkr "Point"]
abbrev R : PySem.W.OpenRow := PySem.W.OpenLaw.row PySem.Challenge.rw_ownedonce_k00_rows_and_vectors
def fileS : Str := R.prog.main.file
def ex (K : PySem.W.Frag) : Bool := cs.all (insB K) && (kitB K exT tl hl && (iniChk K fileS y_BadCall && (iniChk K fileS y_BadVector && (fldsB K fl_den "den" && (fldsB K fl_dim "dim" && (fldsB K fl_nums "nums" && (xfsB K xf_why "why")))))))
abbrev hk : PySem.W.Hook := hookV 4 fa fn xs ex
def ob (s : PySem.W.SharedT) : AlV := obsV 4 fa fn xs ex (HandSHeadRun.getT s)
theorem ob_eq (s : PySem.W.SharedT) : ob s = hk.obs s.abs := obsV_eq (HandSHeadRun.getT_eq s)
def loose : List PySem.Str := (["_wall", "tupled", "OwnError", "BadCall", "NoDirection", "BadVector", "BadWall", "BadRule", "BadCell", "BadCut", "BadMesh", "BadLoop", "BadLattice", "BadMap", "BadText", "NotClean", "NotGood", "NotOnce", "TooMuch", "MOST_DIM", "MOST_NUMBER", "common", "common_vectors", "divisor", "check_row", "check_rows", "is_vector", "primitive", "turned_up", "upright"] : List PySem.Str) ++ (["contrary", "dot", "combination", "common_points", "lowest", "same_dim", "Point", "_law_mix", "_law_store", "_law_take", "_law_pick", "_law_mixed", "_law_small", "_law_number", "_law_gcd", "_law_content", "_law_prim", "_law_turned", "_law_up", "_law_row", "_law_vector", "_law_great_vector", "_law_odd", "_law_is_number", "_law_alike", "_law_call", "_law_try", "_law_built", "_law_due", "_law_dressed"] : List PySem.Str) ++ (["_law_asked", "_law_near", "_law_kinds", "_law_dots_told", "_law_sums_told", "_law_lengths_told"] : List PySem.Str)
set_option maxHeartbeats 0 in
theorem run (w : World) : HandSHeadRun.RunEq R (PySem.W.view R.prog [71]) hk ob 20000 loose w := by
  intro os
  kernel_rfl
theorem tx_BadCall : ∃ m q0 q1 q2 q3 q4 r1 r2 r3 r4 pl, IniTx "BadCall.__init__" "why" "why" true y_BadCall.params y_BadCall.body y_BadCall.scope m q0 q1 q2 q3 q4 r1 r2 r3 r4 pl :=
  ⟨_, _, _, _, _, _, _, _, _, _, _, rfl, ⟨_, rfl, rfl⟩, .fmt _ _ _ _ _ _ (by decide), ⟨rfl, rfl, rfl, rfl, by decide +kernel, rfl, rfl, rfl⟩, by decide, by decide, fun _ _ _ _ => rfl, fun _ _ _ _ => rfl, fun _ _ _ _ => rfl, fun _ _ _ _ => rfl, fun _ _ _ _ _ _ _ _ => rfl⟩
theorem tx_BadVector : ∃ m q0 q1 q2 q3 q4 r1 r2 r3 r4 pl, IniTx "BadVector.__init__" "why" "why" true y_BadVector.params y_BadVector.body y_BadVector.scope m q0 q1 q2 q3 q4 r1 r2 r3 r4 pl :=
  ⟨_, _, _, _, _, _, _, _, _, _, _, rfl, ⟨_, rfl, rfl⟩, .fmt _ _ _ _ _ _ (by decide), ⟨rfl, rfl, rfl, rfl, by decide +kernel, rfl, rfl, rfl⟩, by decide, by decide, fun _ _ _ _ => rfl, fun _ _ _ _ => rfl, fun _ _ _ _ => rfl, fun _ _ _ _ => rfl, fun _ _ _ _ _ _ _ _ => rfl⟩
theorem hfile : R.prog.main.file = fileS := rfl
theorem htop : (R.prog.main.scope.names.lookup ("super" : Str)).isSome = false := by kernel_rfl
theorem tx_of {K : PySem.W.Frag} {h : Heap} {mg : Str → Option Value} (X : K.In h) (G : h.Ns mainGlobals mg) (c : SaysV fa fn xs ex K) : Tx R.prog K mg := by
  have ee := c.ex
  obtain ⟨e0, ee⟩ := He.ba ee
  obtain ⟨e1, ee⟩ := He.ba ee
  obtain ⟨e2, ee⟩ := He.ba ee
  obtain ⟨e3, ee⟩ := He.ba ee
  obtain ⟨e4, ee⟩ := He.ba ee
  obtain ⟨e5, ee⟩ := He.ba ee
  obtain ⟨e6, e7⟩ := He.ba ee
  exact { ins := fun c hc => ins_ok (List.all_eq_true.mp e0 c hc), f_ValueError := He.free_ok X G (c.d.fact 60 (f := .free "ValueError") rfl), f_abs := He.free_ok X G (c.d.fact 61 (f := .free "abs") rfl), f_bool := He.free_ok X G (c.d.fact 62 (f := .free "bool") rfl), f_dict := He.free_ok X G (c.d.fact 63 (f := .free "dict") rfl), f_int := He.free_ok X G (c.d.fact 64 (f := .free "int") rfl), f_isinstance := He.free_ok X G (c.d.fact 65 (f := .free "isinstance") rfl), f_len := He.free_ok X G (c.d.fact 66 (f := .free "len") rfl), f_list := He.free_ok X G (c.d.fact 67 (f := .free "list") rfl), f_max := He.free_ok X G (c.d.fact 68 (f := .free "max") rfl), f_min := He.free_ok X G (c.d.fact 69 (f := .free "min") rfl), f_range := He.free_ok X G (c.d.fact 70 (f := .free "range") rfl), f_repr := He.free_ok X G (c.d.fact 71 (f := .free "repr") rfl), f_str := He.free_ok X G (c.d.fact 72 (f := .free "str") rfl), f_sum := He.free_ok X G (c.d.fact 73 (f := .free "sum") rfl), f_tuple := He.free_ok X G (c.d.fact 74 (f := .free "tuple") rfl), f_zip := He.free_ok X G (c.d.fact 75 (f := .free "zip") rfl), c_MOST_DIM := He.int_ok X G (c.d.fact 77 (f := .int "MOST_DIM" 4) rfl), c_MOST_NUMBER := He.int_ok X G (c.d.fact 78 (f := .int "MOST_NUMBER" 1000000) rfl), g_BadCall := He.glo_ok X G (c.d.fact 42 (f := .glo "BadCall") rfl), g_BadCell := He.glo_ok X G (c.d.fact 43 (f := .glo "BadCell") rfl), g_BadCut := He.glo_ok X G (c.d.fact 44 (f := .glo "BadCut") rfl), g_BadLattice := He.glo_ok X G (c.d.fact 45 (f := .glo "BadLattice") rfl), g_BadLoop := He.glo_ok X G (c.d.fact 46 (f := .glo "BadLoop") rfl), g_BadMap := He.glo_ok X G (c.d.fact 47 (f := .glo "BadMap") rfl), g_BadMesh := He.glo_ok X G (c.d.fact 48 (f := .glo "BadMesh") rfl), g_BadRule := He.glo_ok X G (c.d.fact 49 (f := .glo "BadRule") rfl), g_BadText := He.glo_ok X G (c.d.fact 50 (f := .glo "BadText") rfl), g_BadVector := He.glo_ok X G (c.d.fact 51 (f := .glo "BadVector") rfl), g_BadWall := He.glo_ok X G (c.d.fact 52 (f := .glo "BadWall") rfl), g_NoDirection := He.glo_ok X G (c.d.fact 53 (f := .glo "NoDirection") rfl), g_NotClean := He.glo_ok X G (c.d.fact 54 (f := .glo "NotClean") rfl), g_NotGood := He.glo_ok X G (c.d.fact 55 (f := .glo "NotGood") rfl), g_NotOnce := He.glo_ok X G (c.d.fact 56 (f := .glo "NotOnce") rfl), g_OwnError := He.glo_ok X G (c.d.fact 57 (f := .glo "OwnError") rfl), g_TooMuch := He.glo_ok X G (c.d.fact 59 (f := .glo "TooMuch") rfl), x_BadCall := xmk_ok (d := y_BadCall) (file := fileS) (par := "why") (fm := true) (c.inis (by simp [xs])) e2 hfile htop (He.glo_ok X G (c.d.fact 42 (f := .glo "BadCall") rfl)) (He.free_ok X G (c.d.fact 76 (f := .free "super") rfl)) tx_BadCall, x_BadVector := xmk_ok (d := y_BadVector) (file := fileS) (par := "why") (fm := true) (c.inis (by simp [xs])) e3 hfile htop (He.glo_ok X G (c.d.fact 51 (f := .glo "BadVector") rfl)) (He.free_ok X G (c.d.fact 76 (f := .free "super") rfl)) tx_BadVector, fl_den := flds_ok e4, fl_dim := flds_ok e5, fl_nums := flds_ok e6, xf_why := xfs_ok e7, xc := kit_xc e1, xi := kit_xi e1, xv := kit_xv e1, xe := kit_xe e1 }
theorem law_fk {w : World} {K : PySem.W.Frag} {h : Heap} {mg : Str → Option Value} {base : Heap} (X : K.In h) (G : h.Ns mainGlobals mg) (c : SaysV fa fn xs ex K) : FK R.prog w K mg base 11 1 "law" ["script"] F_p_law := by
  have T := tx_of X G c
  let P := R.prog
  have h_w_mix := ok_w_mix (y := "_law_mix") (P := P) (w := w) (base := base) T  (c.d.def_ 0 (d := d_w_mix) rfl) (He.glo_ok X G (c.d.fact 0 (f := .glo "_law_mix") rfl))
  have h_w_store := ok_w_store (y := "_law_store") (P := P) (w := w) (base := base) T h_w_mix (c.d.def_ 1 (d := d_w_store) rfl) (He.glo_ok X G (c.d.fact 1 (f := .glo "_law_store") rfl))
  have h_w_take := ok_w_take (y := "_law_take") (P := P) (w := w) (base := base) T h_w_mix (c.d.def_ 2 (d := d_w_take) rfl) (He.glo_ok X G (c.d.fact 2 (f := .glo "_law_take") rfl))
  have h_w_small := ok_w_small (y := "_law_small") (P := P) (w := w) (base := base) T h_w_take (c.d.def_ 3 (d := d_w_small) rfl) (He.glo_ok X G (c.d.fact 3 (f := .glo "_law_small") rfl))
  have h_w_pick := ok_w_pick (y := "_law_pick") (P := P) (w := w) (base := base) T h_w_take (c.d.def_ 4 (d := d_w_pick) rfl) (He.glo_ok X G (c.d.fact 4 (f := .glo "_law_pick") rfl))
  have h_w_row := ok_w_row (y := "_law_row") (P := P) (w := w) (base := base) T h_w_take h_w_small h_w_pick (c.d.def_ 5 (d := d_w_row) rfl) (He.glo_ok X G (c.d.fact 5 (f := .glo "_law_row") rfl))
  have h_w_great_vector := ok_w_great_vector (y := "_law_great_vector") (P := P) (w := w) (base := base) T h_w_take h_w_pick (c.d.def_ 6 (d := d_w_great_vector) rfl) (He.glo_ok X G (c.d.fact 6 (f := .glo "_law_great_vector") rfl))
  have h_w_gcd := ok_w_gcd (y := "_law_gcd") (P := P) (w := w) (base := base) T  (c.d.def_ 7 (d := d_w_gcd) rfl) (He.glo_ok X G (c.d.fact 7 (f := .glo "_law_gcd") rfl))
  have h_w_content := ok_w_content (y := "_law_content") (P := P) (w := w) (base := base) T h_w_gcd (c.d.def_ 8 (d := d_w_content) rfl) (He.glo_ok X G (c.d.fact 8 (f := .glo "_law_content") rfl))
  have h_w_prim := ok_w_prim (y := "_law_prim") (P := P) (w := w) (base := base) T h_w_content (c.d.def_ 9 (d := d_w_prim) rfl) (He.glo_ok X G (c.d.fact 9 (f := .glo "_law_prim") rfl))
  have h_w_vector := ok_w_vector (y := "_law_vector") (P := P) (w := w) (base := base) T h_w_row h_w_content h_w_pick h_w_take h_w_prim (c.d.def_ 10 (d := d_w_vector) rfl) (He.glo_ok X G (c.d.fact 10 (f := .glo "_law_vector") rfl))
  have h_w_number := ok_w_number (y := "_law_number") (P := P) (w := w) (base := base) T h_w_take h_w_small h_w_pick (c.d.def_ 11 (d := d_w_number) rfl) (He.glo_ok X G (c.d.fact 11 (f := .glo "_law_number") rfl))
  have h_w_built := ok_w_built (y := "_law_built") (P := P) (w := w) (base := base) T h_w_take h_w_row h_w_pick h_w_vector h_w_great_vector h_w_number (c.d.def_ 12 (d := d_w_built) rfl) (He.glo_ok X G (c.d.fact 12 (f := .glo "_law_built") rfl))
  have h_w_mixed := ok_w_mixed (y := "_law_mixed") (P := P) (w := w) (base := base) T h_w_take (c.d.def_ 13 (d := d_w_mixed) rfl) (He.glo_ok X G (c.d.fact 13 (f := .glo "_law_mixed") rfl))
  have h_w_dressed := ok_w_dressed (y := "_law_dressed") (P := P) (w := w) (base := base) T h_w_take (c.d.def_ 14 (d := d_w_dressed) rfl) (He.glo_ok X G (c.d.fact 14 (f := .glo "_law_dressed") rfl))
  have h_w_is_number := ok_w_is_number (y := "_law_is_number") (P := P) (w := w) (base := base) T  (c.d.def_ 15 (d := d_w_is_number) rfl) (He.glo_ok X G (c.d.fact 15 (f := .glo "_law_is_number") rfl))
  have h_w_alike := ok_w_alike (y := "_law_alike") (P := P) (w := w) (base := base) T h_w_is_number (c.d.def_ 16 (d := d_w_alike) rfl) (He.glo_ok X G (c.d.fact 16 (f := .glo "_law_alike") rfl))
  have h_p_check_row := ok_p_check_row (y := "check_row") (P := P) (w := w) (base := base) T  (c.d.def_ 17 (d := d_p_check_row) rfl) (He.glo_ok X G (c.d.fact 17 (f := .glo "check_row") rfl))
  have h_p_check_rows := ok_p_check_rows (y := "check_rows") (P := P) (w := w) (base := base) T h_p_check_row (c.d.def_ 18 (d := d_p_check_rows) rfl) (He.glo_ok X G (c.d.fact 18 (f := .glo "check_rows") rfl))
  have h_p_combination := ok_p_combination (y := "combination") (P := P) (w := w) (base := base) T h_p_check_rows (c.d.def_ 19 (d := d_p_combination) rfl) (He.glo_ok X G (c.d.fact 19 (f := .glo "combination") rfl))
  have h_p_common_vectors := ok_p_common_vectors (y := "common_vectors") (P := P) (w := w) (base := base) T  (c.d.def_ 20 (d := d_p_common_vectors) rfl) (He.glo_ok X G (c.d.fact 20 (f := .glo "common_vectors") rfl))
  have h_p_divisor := ok_p_divisor (y := "divisor") (P := P) (w := w) (base := base) T h_p_common_vectors (c.d.def_ 21 (d := d_p_divisor) rfl) (He.glo_ok X G (c.d.fact 21 (f := .glo "divisor") rfl))
  have h_p_is_vector := ok_p_is_vector (y := "is_vector") (P := P) (w := w) (base := base) T h_p_divisor (c.d.def_ 22 (d := d_p_is_vector) rfl) (He.glo_ok X G (c.d.fact 22 (f := .glo "is_vector") rfl))
  have h_p_primitive := ok_p_primitive (y := "primitive") (P := P) (w := w) (base := base) T h_p_check_row h_p_divisor (c.d.def_ 23 (d := d_p_primitive) rfl) (He.glo_ok X G (c.d.fact 23 (f := .glo "primitive") rfl))
  have h_p_turned_up := ok_p_turned_up (y := "turned_up") (P := P) (w := w) (base := base) T  (c.d.def_ 24 (d := d_p_turned_up) rfl) (He.glo_ok X G (c.d.fact 24 (f := .glo "turned_up") rfl))
  have h_p_upright := ok_p_upright (y := "upright") (P := P) (w := w) (base := base) T h_p_turned_up h_p_primitive (c.d.def_ 25 (d := d_p_upright) rfl) (He.glo_ok X G (c.d.fact 25 (f := .glo "upright") rfl))
  have h_p_contrary := ok_p_contrary (y := "contrary") (P := P) (w := w) (base := base) T h_p_check_row (c.d.def_ 26 (d := d_p_contrary) rfl) (He.glo_ok X G (c.d.fact 26 (f := .glo "contrary") rfl))
  have h_p_dot := ok_p_dot (y := "dot") (P := P) (w := w) (base := base) T h_p_check_rows (c.d.def_ 27 (d := d_p_dot) rfl) (He.glo_ok X G (c.d.fact 27 (f := .glo "dot") rfl))
  have h_w_call := ok_w_call (y := "_law_call") (P := P) (w := w) (base := base) T h_p_is_vector h_p_primitive h_p_upright h_p_contrary h_p_dot h_p_combination (c.d.def_ 28 (d := d_w_call) rfl) (He.glo_ok X G (c.d.fact 28 (f := .glo "_law_call") rfl))
  have h_w_try := ok_w_try (y := "_law_try") (P := P) (w := w) (base := base) T h_w_call (c.d.def_ 29 (d := d_w_try) rfl) (He.glo_ok X G (c.d.fact 29 (f := .glo "_law_try") rfl))
  have h_w_asked := ok_w_asked (y := "_law_asked") (P := P) (w := w) (base := base) T h_w_dressed h_w_alike h_w_try (c.d.def_ 30 (d := d_w_asked) rfl) (He.glo_ok X G (c.d.fact 30 (f := .glo "_law_asked") rfl))
  have h_w_sums_told := ok_w_sums_told (y := "_law_sums_told") (P := P) (w := w) (base := base) T h_w_take h_w_built h_w_number h_w_asked h_w_pick (c.d.def_ 31 (d := d_w_sums_told) rfl) (He.glo_ok X G (c.d.fact 31 (f := .glo "_law_sums_told") rfl))
  have h_w_lengths_told := ok_w_lengths_told (y := "_law_lengths_told") (P := P) (w := w) (base := base) T h_w_pick h_w_asked (c.d.def_ 32 (d := d_w_lengths_told) rfl) (He.glo_ok X G (c.d.fact 32 (f := .glo "_law_lengths_told") rfl))
  have h_w_odd := ok_w_odd (y := "_law_odd") (P := P) (w := w) (base := base) T h_w_pick (c.d.def_ 33 (d := d_w_odd) rfl) (He.glo_ok X G (c.d.fact 33 (f := .glo "_law_odd") rfl))
  have h_w_near := ok_w_near (y := "_law_near") (P := P) (w := w) (base := base) T h_w_vector h_w_take h_w_pick h_w_odd (c.d.def_ 34 (d := d_w_near) rfl) (He.glo_ok X G (c.d.fact 34 (f := .glo "_law_near") rfl))
  have h_p_common_points := ok_p_common (y := "common_points") (P := P) (w := w) (base := base) T  (c.d.def_ 35 (d := d_p_common_points) rfl) (He.glo_ok X G (c.d.fact 35 (f := .glo "common_points") rfl))
  have m_Point := ok_i_Point (P := P) (w := w) (base := base) T h_p_common_points ⟨_, He.mkr_ok (c.d.fact 79 (f := .mkr "Point") rfl), c.d.def_ 42 (d := d_i_Point) rfl⟩ (He.glo_ok X G (c.d.fact 58 (f := .glo "Point") rfl))
  have h_w_kinds := ok_w_kinds (y := "_law_kinds") (P := P) (w := w) (base := base) T h_w_take h_w_near h_w_alike h_w_try h_w_vector h_w_asked m_Point (c.d.def_ 36 (d := d_w_kinds) rfl) (He.glo_ok X G (c.d.fact 36 (f := .glo "_law_kinds") rfl))
  have h_w_dots_told := ok_w_dots_told (y := "_law_dots_told") (P := P) (w := w) (base := base) T h_w_take h_w_built h_w_asked h_w_mixed (c.d.def_ 37 (d := d_w_dots_told) rfl) (He.glo_ok X G (c.d.fact 37 (f := .glo "_law_dots_told") rfl))
  have h_w_turned := ok_w_turned (y := "_law_turned") (P := P) (w := w) (base := base) T  (c.d.def_ 38 (d := d_w_turned) rfl) (He.glo_ok X G (c.d.fact 38 (f := .glo "_law_turned") rfl))
  have h_w_up := ok_w_up (y := "_law_up") (P := P) (w := w) (base := base) T h_w_prim (c.d.def_ 39 (d := d_w_up) rfl) (He.glo_ok X G (c.d.fact 39 (f := .glo "_law_up") rfl))
  have h_w_due := ok_w_due (y := "_law_due") (P := P) (w := w) (base := base) T h_w_content h_w_turned h_w_up h_w_prim (c.d.def_ 40 (d := d_w_due) rfl) (He.glo_ok X G (c.d.fact 40 (f := .glo "_law_due") rfl))
  exact ok_p_law (y := "law") (P := P) (w := w) (base := base) T h_w_store h_w_take h_w_built h_w_mixed h_w_asked h_w_due h_w_dots_told h_w_kinds h_w_lengths_told h_w_sums_told (c.d.def_ 41 (d := d_p_law) rfl) (He.glo_ok X G (c.d.fact 41 (f := .glo "law") rfl))
end Vi

namespace Vi
open PySem PySem.Spec L2

/-- what may be raised -/
abbrev XP := Str → List Str → List D → Prop
def XF : XP := fun _ _ _ => False
def wpM {α : Type} (X : XP) (f : M α) (ρ : En) (Q : α → En → Prop) : Prop := match f ρ with
  | .ok a ρ' => Q a ρ'
  | .ex c ns ds _ => X c ns ds
  | .no => False
def wpB (X : XP) (b : VS) (ρ : En) (N : En → Prop) (R : D → En → Prop) : Prop := match b ρ with
  | .nx ρ' => N ρ'
  | .rt d ρ' => R d ρ'
  | .ex c ns ds _ => X c ns ds
  | _ => False
/-- the def F on these arguments gives what P holds of -/
def sp (X : XP) (F : FN) (args : En) (P : D → En → Prop) : Prop := match F args with
  | .ok d as => P d as
  | .ex c ns ds _ => X c ns ds
  | .no => False
section
variable {X : XP} {α β : Type} {ρ : En} {Q : α → En → Prop} {Q2 : β → En → Prop} {N : En → Prop} {R : D → En → Prop}
theorem wp_imp {f : M α} {Q' : α → En → Prop} (h : wpM X f ρ Q) (i : ∀ a ρ', Q a ρ' → Q' a ρ') : wpM X f ρ Q' := by
  unfold wpM at h ⊢
  cases e : f ρ with
  | ok a ρ' => rw [e] at h; exact i _ _ h
  | ex c ns ds r => rw [e] at h; exact h
  | no => rw [e] at h; exact h
theorem wpB_imp {b : VS} {N' : En → Prop} {R' : D → En → Prop} (h : wpB X b ρ N R) (i : ∀ ρ', N ρ' → N' ρ') (j : ∀ d ρ', R d ρ' → R' d ρ') : wpB X b ρ N' R' := by
  unfold wpB at h ⊢
  cases e : b ρ with
  | nx ρ' => rw [e] at h; exact i _ h
  | rt d ρ' => rw [e] at h; exact j _ _ h
  | _ => rw [e] at h; exact h
theorem wp_bind {f : M α} {g : α → M β} : wpM X (bind f g) ρ Q2 = wpM X f ρ fun a ρ' => wpM X (g a) ρ' Q2 := by
  unfold wpM Vi.bind
  cases f ρ <;> rfl
theorem wp_ret {a : α} : wpM X (ret a) ρ Q = Q a ρ := (rfl)
theorem wp_opt {o : Option α} : wpM X (opt o) ρ Q = (match o with
    | some a => Q a ρ
    | none => False) := by
  unfold wpM opt
  cases o <;> rfl
theorem wp_var {i : Nat} {Q : D → En → Prop} : wpM X (vVar i) ρ Q = (match ρ[i]? with
    | some (.dat d) => Q d ρ
    | some (.own m) => Q m.toD (ρ.set i (.dat m.toD))
    | _ => False) := by
  unfold wpM vVar
  cases ρ[i]? with
  | none => rfl
  | some s => cases s <;> rfl
theorem wp_ev {a : Ar} {Q : Sum Nat D → En → Prop} : wpM X (ev a) ρ Q = (match a with
    | .nm i => (match rdS ρ i with
      | some _ => Q (.inl i) ρ
      | none => False)
    | .ex f => wpM X f ρ fun d ρ' => Q (.inr d) ρ') := by
  cases a with
  | nm i =>
    cases h : rdS ρ i <;> simp [wpM, ev, h]
  | ex f =>
    show wpM X (bind f fun d => ret (.inr d)) ρ Q = _
    rw [wp_bind]
    rfl
theorem wp_evs0 {Q : List (Sum Nat D) → En → Prop} : wpM X (evs []) ρ Q = Q [] ρ := (rfl)
theorem wp_evsC {a : Ar} {as : List Ar} {Q : List (Sum Nat D) → En → Prop} : wpM X (evs (a :: as)) ρ Q = wpM X (ev a) ρ fun s ρ' => wpM X (evs as) ρ' fun ss ρ'' => Q (s :: ss) ρ'' := by
  show wpM X (bind (ev a) fun s => bind (evs as) fun ss => ret (s :: ss)) ρ Q = _
  simp only [wp_bind]
  rfl
theorem wp_opx {o : List D → Option α} {ss : List (Sum Nat D)} : wpM X (opx o ss) ρ Q = (match rds ρ ss with
    | some ds => (match o ds with
      | some d => Q d ρ
      | none => False)
    | none => False) := by
  unfold wpM opx
  cases rds ρ ss with
  | none => rfl
  | some ds => simp only; cases o ds <;> rfl
theorem wp_opv {as : List Ar} {o : List D → Option D} {Q : D → En → Prop} : wpM X (opv as o) ρ Q = wpM X (evs as) ρ fun ss ρ' => wpM X (opx o ss) ρ' Q := by
  unfold opv
  rw [wp_bind]
theorem wp_opo {as : List Ar} {o : List D → Option MO} {Q : MO → En → Prop} : wpM X (opo as o) ρ Q = wpM X (evs as) ρ fun ss ρ' => wpM X (opx o ss) ρ' Q := by
  unfold opo
  rw [wp_bind]
theorem wp_evd0 {Q : List D → En → Prop} : wpM X (evd []) ρ Q = Q [] ρ := (rfl)
theorem wp_evdC {f : M D} {fs : List (M D)} {Q : List D → En → Prop} : wpM X (evd (f :: fs)) ρ Q = wpM X f ρ fun d ρ' => wpM X (evd fs) ρ' fun ds ρ'' => Q (d :: ds) ρ'' := by
  show wpM X (bind f fun d => bind (evd fs) fun ds => ret (d :: ds)) ρ Q = _
  simp only [wp_bind]
  rfl
theorem wp_frz {f : M MO} {Q : D → En → Prop} : wpM X (frz f) ρ Q = wpM X f ρ fun m ρ' => Q m.toD ρ' := by
  unfold frz
  first
    | (rw [wp_bind]; rfl)
    | (unfold wpM; cases f ρ <;> rfl)
theorem wp_tb {f : M D} {Q : Bool → En → Prop} : wpM X (vTb f) ρ Q = wpM X f ρ fun d ρ' => (match d with
    | .bl b => Q b ρ'
    | _ => False) := by
  unfold vTb
  rw [wp_bind]
  congr 1
  funext d ρ'
  cases d <;> rfl
theorem wp_not {f : M Bool} {Q : Bool → En → Prop} : wpM X (vNot f) ρ Q = wpM X f ρ fun b ρ' => Q (!b) ρ' := by unfold vNot; rw [wp_bind]; rfl
theorem wp_and {f g : M Bool} {Q : Bool → En → Prop} : wpM X (vAnd f g) ρ Q = wpM X f ρ fun b ρ' => if b = true then wpM X g ρ' Q else Q false ρ' := by
  unfold vAnd
  rw [wp_bind]
  congr 1
  funext b ρ'
  cases b <;> rfl
theorem wp_or {f g : M Bool} {Q : Bool → En → Prop} : wpM X (vOr f g) ρ Q = wpM X f ρ fun b ρ' => if b = true then Q true ρ' else wpM X g ρ' Q := by
  unfold vOr
  rw [wp_bind]
  congr 1
  funext b ρ'
  cases b <;> rfl
theorem wp_andV {f g : M D} {Q : D → En → Prop} : wpM X (vAndV f g) ρ Q = wpM X (vTb f) ρ fun b ρ' => if b = true then wpM X g ρ' Q else Q (.bl false) ρ' := by
  unfold vAndV
  rw [wp_bind]
  congr 1
  funext b ρ'
  cases b <;> rfl
theorem wp_orV {f g : M D} {Q : D → En → Prop} : wpM X (vOrV f g) ρ Q = wpM X (vTb f) ρ fun b ρ' => if b = true then Q (.bl true) ρ' else wpM X g ρ' Q := by
  unfold vOrV
  rw [wp_bind]
  congr 1
  funext b ρ'
  cases b <;> rfl
theorem wp_notV {f : M D} {Q : D → En → Prop} : wpM X (vNotV f) ρ Q = wpM X (vTb f) ρ fun b ρ' => Q (.bl (!b)) ρ' := by unfold vNotV; rw [wp_bind]; rfl
theorem wp_ifE {t : M Bool} {f g : M D} {Q : D → En → Prop} : wpM X (vIfE t f g) ρ Q = wpM X t ρ fun b ρ' => if b = true then wpM X f ρ' Q else wpM X g ρ' Q := by
  unfold vIfE
  rw [wp_bind]
  congr 1
  funext b ρ'
  cases b <;> rfl
theorem wp_tup {fs : List (M D)} {Q : D → En → Prop} : wpM X (vTup fs) ρ Q = wpM X (evd fs) ρ fun ds ρ' => Q (.tup ds) ρ' := by unfold vTup; rw [wp_bind]; rfl
theorem wp_lst {fs : List (M D)} {Q : MO → En → Prop} : wpM X (vLst fs) ρ Q = wpM X (evd fs) ρ fun ds ρ' => Q (.lst ds) ρ' := by unfold vLst; rw [wp_bind]; rfl
theorem wp_rng {as : List Ar} {o : List D → Option (List D)} {Q : List D → En → Prop} : wpM X (itRng o as) ρ Q = wpM X (evs as) ρ fun ss ρ' => wpM X (opx o ss) ρ' Q := by
  unfold itRng
  rw [wp_bind]
theorem wp_seq {f : M D} {Q : List D → En → Prop} : wpM X (itSeq f) ρ Q = wpM X f ρ fun d ρ' => (match seqD d with
    | some ds => Q ds ρ'
    | none => False) := by
  unfold itSeq
  rw [wp_bind]
  congr 1
  funext d ρ'
  rw [wp_opt]
  cases seqD d <;> rfl
theorem wp_call {F : FN} {fs : List (M D)} {Q : D → En → Prop} : wpM X (vCall F fs) ρ Q = wpM X (evd fs) ρ fun ds ρ' => sp X F (ds.map .dat) fun d _ => Q d ρ' := by
  unfold vCall
  rw [wp_bind]
  congr 1
  funext ds ρ'
  unfold wpM sp
  cases F (ds.map .dat) <;> rfl
def callK (F : FN) (i : Nat) : List D → M D := fun ds ρ => match owS ρ i with
  | none => .no
  | some m => (match F (.mu m :: ds.map .dat) with
    | .ok d (.mu m' :: _) => .ok d (putM ρ i m')
    | .ex c ns es (.mu m' :: _) => .ex c ns es (putM ρ i m')
    | _ => .no)
theorem wp_callM {F : FN} {i : Nat} {fs : List (M D)} {Q : D → En → Prop} (h : (owS ρ i).isSome = true) : wpM XF (vCallM F i fs) ρ Q = wpM XF (evd fs) ρ fun ds ρ' => (match owS ρ' i with
    | some m => sp XF F (.mu m :: ds.map .dat) fun d as => (match as with
      | .mu m' :: _ => Q d (putM ρ' i m')
      | _ => False)
    | none => False) := by
  have e : vCallM F i fs ρ = bind (evd fs) (callK F i) ρ := by
    unfold vCallM
    cases h2 : owS ρ i with
    | none => rw [h2] at h; cases h
    | some m => rfl
  have e2 : wpM XF (vCallM F i fs) ρ Q = wpM XF (bind (evd fs) (callK F i)) ρ Q := by
    unfold wpM
    rw [e]
  rw [e2, wp_bind]
  congr 1
  funext ds ρ'
  unfold wpM sp callK
  cases ho : owS ρ' i with
  | none => rfl
  | some m =>
    simp only
    generalize F (.mu m :: ds.map .dat) = r
    cases r with
    | ok d as =>
      cases as with
      | nil => rfl
      | cons s r => cases s <;> rfl
    | ex c ns es as =>
      cases as with
      | nil => rfl
      | cons s r => cases s <;> rfl
    | no => rfl
theorem wb_seq {f g : VS} : wpB X (vSeq f g) ρ N R = wpB X f ρ (fun ρ' => wpB X g ρ' N R) R := by
  unfold wpB vSeq
  cases f ρ <;> rfl
theorem wb_nx : wpB X vNx ρ N R = N ρ := (rfl)
theorem wb_sb {f : M α} {k : α → VS} : wpB X (sb f k) ρ N R = wpM X f ρ fun a ρ' => wpB X (k a) ρ' N R := by
  unfold wpB wpM sb
  cases f ρ <;> rfl
theorem wb_set {i : Nat} {f : M D} : wpB X (vSet i f) ρ N R = wpM X f ρ fun d ρ' => N (ρ'.set i (.dat d)) := by unfold vSet; rw [wb_sb]; rfl
theorem wb_setO {i : Nat} {f : M MO} : wpB X (vSetO i f) ρ N R = wpM X f ρ fun d ρ' => N (ρ'.set i (.own d)) := by unfold vSetO; rw [wb_sb]; rfl
theorem wb_drop {f : M D} : wpB X (vDrop f) ρ N R = wpM X f ρ fun _ ρ' => N ρ' := by unfold vDrop; rw [wb_sb]; rfl
theorem wb_ret {f : M D} : wpB X (vRet f) ρ N R = wpM X f ρ R := by unfold vRet; rw [wb_sb]; rfl
theorem wb_retN : wpB X vRetN ρ N R = R .non ρ := (rfl)
theorem wb_if {c : M Bool} {f g : VS} : wpB X (vIf c f g) ρ N R = wpM X c ρ fun b ρ' => if b = true then wpB X f ρ' N R else wpB X g ρ' N R := by
  unfold vIf
  rw [wb_sb]
  congr 1
  funext b ρ'
  cases b <;> rfl
theorem wb_par {i j : Nat} {f g : M D} : wpB X (vPar i j f g) ρ N R = wpM X (evd [f, g]) ρ fun ds ρ' => (match ds with
    | [d, e] => N ((ρ'.set i (.dat d)).set j (.dat e))
    | _ => False) := by
  unfold vPar
  rw [wb_sb]
  congr 1
  funext ds ρ'
  unfold wpB
  rcases ds with _ | ⟨d, _ | ⟨e, _ | ⟨g, r⟩⟩⟩ <;> rfl
theorem wb_asg {tg : Tg} {f : M D} : wpB X (vAsg tg f) ρ N R = wpM X f ρ fun d ρ' => (match asgT tg d ρ' with
    | some ρ2 => N ρ2
    | none => False) := by
  unfold vAsg
  rw [wb_sb]
  congr 1
  funext d ρ'
  unfold wpB
  dsimp only
  cases asgT tg d ρ' <;> rfl
def appK (i : Nat) : D → VS := fun d ρ1 => match owS ρ1 i with
  | some (.lst ds) => if ds.length < sizeLine then .nx (putM ρ1 i (.lst (ds ++ [d]))) else .no
  | _ => .no
theorem wb_app {i : Nat} {f : M D} (h : isLst ρ i = true) : wpB X (vApp i f) ρ N R = (wpM X f ρ fun d ρ1 => (match owS ρ1 i with
    | some (.lst ds) => ds.length < sizeLine ∧ N (putM ρ1 i (.lst (ds ++ [d])))
    | _ => False)) := by
  have e : vApp i f ρ = sb f (appK i) ρ := by
    unfold vApp
    rw [if_pos h]
    rfl
  have e2 : wpB X (vApp i f) ρ N R = wpB X (sb f (appK i)) ρ N R := by
    unfold wpB
    rw [e]
  rw [e2, wb_sb]
  congr 1
  funext d ρ1
  unfold wpB appK
  cases ho : owS ρ1 i with
  | none => rfl
  | some m =>
    cases m with
    | lst ds =>
      simp only
      by_cases q : ds.length < sizeLine
      · rw [if_pos q]
        simp only [q, true_and]
      · rw [if_neg q]
        simp only [q, false_and]
    | _ => rfl
def putK (i : Nat) (d : D) : D → VS := fun k ρ1 => match k, owS ρ1 i with
  | .int k, some (.lst ds) => (match ixN ds.length k with
    | some j => .nx (putM ρ1 i (.lst (ds.set j d)))
    | none => .no)
  | _, _ => .no
theorem wb_put {i : Nat} {fx fv : M D} : wpB X (vPut i fx fv) ρ N R = wpM X fv ρ fun d ρ0 => isLst ρ0 i = true ∧ (wpM X fx ρ0 fun k ρ1 => (match k, owS ρ1 i with
    | .int k, some (.lst ds) => (match ixN ds.length k with
      | some j => N (putM ρ1 i (.lst (ds.set j d)))
      | none => False)
    | _, _ => False)) := by
  unfold vPut
  rw [wb_sb]
  congr 1
  funext d ρ0
  by_cases h : isLst ρ0 i = true
  · have e2 : wpB X (sb fx (putK i d)) ρ0 N R = wpM X fx ρ0 fun k ρ1 => wpB X (putK i d k) ρ1 N R := wb_sb
    have e3 : wpB X (fun ρ0 => if isLst ρ0 i = true then sb fx (putK i d) ρ0 else .no) ρ0 N R = wpB X (sb fx (putK i d)) ρ0 N R := by
      unfold wpB
      dsimp only
      rw [if_pos h]
    refine (Eq.trans e3 e2).trans ?_
    rw [eq_true h, true_and]
    congr 1
    funext k ρ1
    unfold wpB putK
    cases k with
    | int k =>
      cases ho : owS ρ1 i with
      | none => rfl
      | some m =>
        cases m with
        | lst ds => simp only; cases ixN ds.length k <;> rfl
        | _ => rfl
    | _ => rfl
  · unfold wpB
    dsimp only
    rw [if_neg h, eq_false h, false_and]
theorem wb_for {tg : Tg} {it : M (List D)} {body : VS} : wpB X (vFor tg it body) ρ N R = wpM X it ρ fun ds ρ' => wpB X (forD tg body ds) ρ' N R := by unfold vFor; rw [wb_sb]
/-- a loop, by what holds ahead of each turn -/
theorem wb_forI {tg : Tg} {body : VS} (I : Nat → En → Prop) : ∀ (ds : List D) (k : Nat) (ρ : En), I k ρ →
    (∀ i d ρ, ds[i]? = some d → I (k + i) ρ → (match asgT tg d ρ with
      | some ρ1 => wpB X body ρ1 (I (k + i + 1)) R
      | none => False)) → (∀ ρ, I (k + ds.length) ρ → N ρ) → wpB X (forD tg body ds) ρ N R
  | [], k, ρ, h0, hs, hd => hd ρ h0
  | d :: ds, k, ρ, h0, hs, hd => by
    have h1 := hs 0 d ρ rfl h0
    unfold wpB forD
    cases e : asgT tg d ρ with
    | none => rw [e] at h1; exact h1.elim
    | some ρ1 =>
      rw [e] at h1
      simp only at h1 ⊢
      unfold wpB at h1
      cases eb : body ρ1 with
      | nx ρ2 =>
        rw [eb] at h1
        simp only
        refine wb_forI I ds (k + 1) ρ2 h1 (fun i d' ρ' hi hI => ?_) fun ρ' hI => hd ρ' ?_
        · have := hs (i + 1) d' ρ' (by simpa using hi) (by rw [show k + (i + 1) = k + 1 + i by omega]; exact hI)
          rw [show k + (i + 1) + 1 = k + 1 + i + 1 by omega] at this
          exact this
        · rw [List.length_cons, show k + (ds.length + 1) = k + 1 + ds.length by omega]
          exact hI
      | rt d' ρ2 => rw [eb] at h1; exact h1
      | ct ρ2 => rw [eb] at h1; exact h1.elim
      | bk ρ2 => rw [eb] at h1; exact h1.elim
      | ro _ _ => rw [eb] at h1; exact h1.elim
      | ex _ _ _ _ => rw [eb] at h1; exact h1
      | no => rw [eb] at h1; exact h1.elim
/-- a def, by its body -/
theorem sp_run {n Nn : Nat} {b : VS} {args : En} {P : D → En → Prop} (h : wpB XF b (args ++ List.replicate (Nn - n) .emp) (fun ρ' => (match back args ρ' with
    | some as => P .non as
    | none => False)) fun d ρ' => (match back args ρ' with
    | some as => P d as
    | none => False)) : sp XF (runF n Nn b) args P := by
  unfold sp runF
  unfold wpB at h
  cases e : b (args ++ List.replicate (Nn - n) .emp) with
  | nx ρ' =>
    rw [e] at h
    simp only at h ⊢
    cases e2 : back args ρ' with
    | none => rw [e2] at h; exact h.elim
    | some as => rw [e2] at h; exact h
  | rt d ρ' =>
    rw [e] at h
    simp only at h ⊢
    cases e2 : back args ρ' with
    | none => rw [e2] at h; exact h.elim
    | some as => rw [e2] at h; exact h
  | _ => rw [e] at h; exact h.elim
theorem sp_runX {n Nn : Nat} {b : VS} {args : En} {P : D → En → Prop} (hb : ∀ ρ', back args ρ' = some args) (h : wpB X b (args ++ List.replicate (Nn - n) .emp) (fun _ => P .non args) fun d _ => P d args) : sp X (runF n Nn b) args P := by
  unfold sp runF
  unfold wpB at h
  cases e : b (args ++ List.replicate (Nn - n) .emp) with
  | nx ρ' => rw [e] at h; simp only [hb] at h ⊢; exact h
  | rt d ρ' => rw [e] at h; simp only [hb] at h ⊢; exact h
  | ex c ns ds ρ' => rw [e] at h; simp only [hb] at h ⊢; exact h
  | _ => rw [e] at h; exact h.elim
theorem sp_imp {F : FN} {args : En} {P P' : D → En → Prop} (h : sp X F args P) (i : ∀ d as, P d as → P' d as) : sp X F args P' := by
  unfold sp at h ⊢
  cases e : F args with
  | ok d as => rw [e] at h; exact i _ _ h
  | ex _ _ _ _ => rw [e] at h; exact h
  | no => rw [e] at h; exact h
end
end Vi

namespace Vi
open PySem PySem.Spec L2
section
variable {X : XP} {α β : Type} {ρ : En} {Q : α → En → Prop} {N : En → Prop} {R : D → En → Prop}
theorem wp_ite {c : Prop} [Decidable c] {f g : M α} : wpM X (if c then f else g) ρ Q = if c then wpM X f ρ Q else wpM X g ρ Q := by
  split <;> rfl
theorem wb_ite {c : Prop} [Decidable c] {f g : VS} : wpB X (if c then f else g) ρ N R = if c then wpB X f ρ N R else wpB X g ρ N R := by
  split <;> rfl
theorem wp_evo {a : Ar} {Q : Option Int → En → Prop} : wpM X (evo (some a)) ρ Q = wpM X (ev a) ρ fun s ρ' => (match rd ρ' s with
    | some (.int i) => Q (some i) ρ'
    | _ => False) := by
  unfold evo
  rw [wp_bind]
  congr 1
  funext s ρ'
  unfold wpM
  dsimp only
  cases rd ρ' s with
  | none => rfl
  | some d => cases d <;> rfl
theorem wp_evon {Q : Option Int → En → Prop} : wpM X (evo none) ρ Q = Q none ρ := (rfl)
theorem wp_slx {o : D → Option Int → Option Int → Option β} {s : Sum Nat D} {i j : Option Int} {Q : β → En → Prop} : wpM X (slx o s i j) ρ Q = (match rd ρ s with
    | some d => (match o d i j with
      | some z => Q z ρ
      | none => False)
    | none => False) := by
  unfold wpM slx
  cases rd ρ s with
  | none => rfl
  | some d => simp only; cases o d i j <;> rfl
theorem wp_sl {o : D → Option Int → Option Int → Option β} {a : Ar} {l h : Option Ar} {Q : β → En → Prop} : wpM X (vSl o a l h) ρ Q = wpM X (ev a) ρ fun s ρ1 => wpM X (evo l) ρ1 fun i ρ2 => wpM X (evo h) ρ2 fun j ρ3 => wpM X (slx o s i j) ρ3 Q := by
  unfold vSl
  simp only [wp_bind]
theorem wp_lc {vs : List Nat} {tg : Tg} {it : M (List D)} {test : M Bool} {elt : M D} {Q : MO → En → Prop} : wpM X (vLc vs tg it test elt) ρ Q = wpM X it ρ fun ds ρ' => ds.length ≤ sizeLine ∧ wpM XF (compD tg test elt vs ds) (wipeE ρ' vs) fun es ρ2 => Q (.lst es) (restE ρ' ρ2 vs) := by
  unfold vLc
  rw [wp_bind]
  congr 1
  funext ds ρ'
  unfold wpM
  dsimp only
  by_cases h : ds.length ≤ sizeLine
  · rw [if_pos h, eq_true h, true_and]
    cases compD tg test elt vs ds (wipeE ρ' vs) <;> rfl
  · rw [if_neg h, eq_false h, false_and]
theorem wp_comp0 {vs : List Nat} {tg : Tg} {test : M Bool} {elt : M D} {Q : List D → En → Prop} : wpM X (compD tg test elt vs []) ρ Q = Q [] ρ := (rfl)
theorem wp_compC {vs : List Nat} {tg : Tg} {test : M Bool} {elt : M D} {d : D} {ds : List D} {Q : List D → En → Prop} : wpM XF (compD tg test elt vs (d :: ds)) ρ Q = (match asgT tg d ρ with
    | none => False
    | some ρ1 => wpM XF test ρ1 fun b ρ2 => if b = true then wpM XF elt ρ2 fun e ρ3 => wpM XF (compD tg test elt vs ds) (wipeE ρ3 vs) fun es ρ4 => Q (e :: es) ρ4
      else wpM XF (compD tg test elt vs ds) (wipeE ρ2 vs) Q) := by
  unfold wpM
  simp only [compD]
  cases asgT tg d ρ with
  | none => rfl
  | some ρ1 =>
    dsimp only
    cases test ρ1 with
    | no => rfl
    | ex c ns es r => rfl
    | ok b ρ2 =>
      cases b with
      | false => rfl
      | true =>
        dsimp only
        rw [if_pos rfl]
        cases elt ρ2 with
        | no => rfl
        | ex c ns es r => rfl
        | ok e ρ3 =>
          dsimp only
          cases compD tg test elt vs ds (wipeE ρ3 vs) <;> rfl
/-- a comprehension with no test, by what holds ahead of each turn -/
theorem wp_compI {vs : List Nat} {tg : Tg} {elt : M D} {Q : List D → En → Prop} (I : Nat → List D → En → Prop) : ∀ (ds : List D) (k : Nat) (pre : List D) (ρ : En), I k pre ρ →
    (∀ i d pre ρ, ds[i]? = some d → I (k + i) pre ρ → (match asgT tg d ρ with
      | some ρ1 => wpM XF elt ρ1 fun e ρ2 => I (k + i + 1) (pre ++ [e]) (wipeE ρ2 vs)
      | none => False)) → (∀ es ρ, I (k + ds.length) (pre ++ es) ρ → Q es ρ) → wpM XF (compD tg (ret true) elt vs ds) ρ Q
  | [], k, pre, ρ, h0, hs, hd => hd [] ρ (by rw [List.append_nil]; exact h0)
  | d :: ds, k, pre, ρ, h0, hs, hd => by
    rw [wp_compC]
    have h1 := hs 0 d pre ρ rfl h0
    cases e : asgT tg d ρ with
    | none => rw [e] at h1; exact h1.elim
    | some ρ1 =>
      rw [e] at h1
      dsimp only at h1 ⊢
      rw [wp_ret, if_pos rfl]
      refine wp_imp h1 fun e ρ2 h2 => ?_
      refine wp_compI I ds (k + 1) (pre ++ [e]) _ h2 (fun i d' pre' ρ' hi hI => ?_) fun es ρ' hI => hd (e :: es) ρ' ?_
      · have := hs (i + 1) d' pre' ρ' (by simpa using hi) (by rw [show k + (i + 1) = k + 1 + i by omega]; exact hI)
        rw [show k + (i + 1) + 1 = k + 1 + i + 1 by omega] at this
        exact this
      · rw [List.length_cons, show k + (ds.length + 1) = k + 1 + ds.length by omega]
        rw [List.append_assoc] at hI
        exact hI
theorem wp_pop {i : Nat} {Q : D → En → Prop} : wpM X (vPop i) ρ Q = (match owS ρ i with
    | some (.lst ds) => (match ds.getLast? with
      | some d => Q d (putM ρ i (.lst ds.dropLast))
      | none => False)
    | _ => False) := by
  unfold wpM vPop
  cases owS ρ i with
  | none => rfl
  | some m =>
    cases m with
    | lst ds => dsimp only; cases ds.getLast? <;> rfl
    | _ => rfl
def soP (X : XP) (F : FO) (args : En) (P : MO → En → Prop) : Prop := match F args with
  | .ok d as => P d as
  | .ex c ns ds _ => X c ns ds
  | .no => False
theorem wp_callO {F : FO} {fs : List (M D)} {Q : MO → En → Prop} : wpM X (vCallO F fs) ρ Q = wpM X (evd fs) ρ fun ds ρ' => soP X F (ds.map .dat) fun d _ => Q d ρ' := by
  unfold vCallO
  rw [wp_bind]
  congr 1
  funext ds ρ'
  unfold wpM soP
  cases F (ds.map .dat) <;> rfl
theorem spO_run {n Nn : Nat} {b : VS} {args : En} {P : MO → En → Prop} {ρ2 as : En} {m : MO} (h : b (args ++ List.replicate (Nn - n) .emp) = .ro m ρ2) (hb : back args ρ2 = some as) (hp : P m as) : soP X (runO n Nn b) args P := by
  unfold soP runO
  rw [h]
  dsimp only
  rw [hb]
  exact hp
theorem wp_callL {F : FN} {as : List Ar} {Q : D → En → Prop} : wpM XF (vCallL F as) ρ Q = wpM XF (evs as) ρ fun ss ρ' => (match rds ρ' ss with
    | some ds => sp XF F (ds.map .dat) fun d _ => scalD d = true ∧ Q d ρ'
    | none => False) := by
  unfold vCallL
  rw [wp_bind]
  congr 1
  funext ss ρ'
  unfold wpM sp
  dsimp only
  cases rds ρ' ss with
  | none => rfl
  | some ds =>
    dsimp only
    cases F (ds.map .dat) with
    | no => rfl
    | ex _ _ _ _ => rfl
    | ok d as' =>
      dsimp only
      by_cases h : scalD d = true
      · rw [if_pos h, eq_true h, true_and]
      · rw [if_neg h, eq_false h, false_and]
theorem wb_raise {c fld : Str} {fm : Bool} {f : M D} : wpB X (vRaise c fld fm f) ρ N R = wpM X f ρ fun d _ => okMsg fm d = true ∧ X c [fld] [d] := by
  unfold vRaise
  rw [wb_sb]
  congr 1
  funext d ρ'
  unfold wpB
  dsimp only
  by_cases h : okMsg fm d = true
  · rw [if_pos h, eq_true h, true_and]
  · rw [if_neg h, eq_false h, false_and]
theorem wp_isE {f : Str → Option Bool} {i : Nat} {Q : D → En → Prop} : wpM X (vIsE f i) ρ Q = (match ρ[i]? with
    | some (.exc c _ _) => (match f c with
      | some b => Q (.bl b) ρ
      | none => False)
    | _ => False) := by
  unfold wpM vIsE
  cases ρ[i]? with
  | none => rfl
  | some s =>
    cases s with
    | exc c ns ds => dsimp only; cases f c <;> rfl
    | _ => rfl
theorem wp_xf {cs : List Str} {f : Str} {i : Nat} {Q : D → En → Prop} : wpM X (vXf cs f i) ρ Q = (match ρ[i]? with
    | some (.exc c ns ds) => c ∈ cs ∧ (match lkD f ns ds with
      | some d => Q d ρ
      | none => False)
    | _ => False) := by
  unfold wpM vXf
  cases ρ[i]? with
  | none => rfl
  | some s =>
    cases s with
    | exc c ns ds =>
      dsimp only
      by_cases h : c ∈ cs
      · rw [if_pos h, eq_true h, true_and]
        cases lkD f ns ds <;> rfl
      · rw [if_neg h, eq_false h, false_and]
    | _ => rfl
theorem wp_count {f g : M D} {Q : D → En → Prop} : wpM X (vCount f g) ρ Q = wpM X f ρ fun y ρ' => isLD y = true ∧ wpM X g ρ' fun x ρ2 => (match countD y x with
    | some d => Q d ρ2
    | none => False) := by
  unfold vCount
  rw [wp_bind]
  congr 1
  funext y ρ'
  by_cases h : isLD y = true
  · refine Eq.trans ?_ (propext (and_iff_right h)).symm
    have e : wpM X (fun ρ => if isLD y = true then bind g (fun x => opt (countD y x)) ρ else .no) ρ' Q = wpM X (bind g (fun x => opt (countD y x))) ρ' Q := by
      unfold wpM
      dsimp only
      rw [if_pos h]
    refine e.trans ?_
    rw [wp_bind]
    congr 1
    funext x ρ2
    rw [wp_opt]
    cases countD y x <;> rfl
  · unfold wpM
    dsimp only
    rw [if_neg h, eq_false h, false_and]
theorem wp_dic {ks : List Key} {fs : List (M D)} {Q : D → En → Prop} : wpM X (vDic ks fs) ρ Q = wpM X (evd fs) ρ fun ds ρ' => (ks.Nodup ∧ ds.length = ks.length ∧ ks.length ≤ 15) ∧ Q (.dic ks ds) ρ' := by
  unfold vDic
  rw [wp_bind]
  congr 1
  funext ds ρ'
  unfold wpM
  dsimp only
  by_cases h : ks.Nodup ∧ ds.length = ks.length ∧ ks.length ≤ 15
  · rw [if_pos h, eq_true h, true_and]
  · rw [if_neg h, eq_false h, false_and]
theorem wp_zip {fs : List (M D)} {Q : List D → En → Prop} : wpM X (itZip fs) ρ Q = wpM X (evd fs) ρ fun ds ρ' => (match ds with
    | [d, e] => (match seqD d, seqD e with
      | some a, some b => Q (zipD a b) ρ'
      | _, _ => False)
    | _ => False) := by
  unfold itZip
  rw [wp_bind]
  congr 1
  funext ds ρ'
  unfold wpM
  rcases ds with _ | ⟨d, _ | ⟨e, _ | ⟨g, r⟩⟩⟩ <;> try rfl
  dsimp only
  cases seqD d with
  | none => rfl
  | some a => cases seqD e <;> rfl
theorem wb_while {fuel : En → Nat} {c : M Bool} {body : VS} (I : Nat → En → Prop) (h0 : ∃ n, n < fuel ρ ∧ I n ρ)
    (hs : ∀ n ρ, I n ρ → wpM X c ρ fun b ρ1 => if b = true then wpB X body ρ1 (fun ρ2 => ∃ m, m < n ∧ I m ρ2) R else N ρ1) : wpB X (vWhile fuel c body) ρ N R := by
  unfold vWhile
  have go : ∀ (k n : Nat) (ρ : En), n < k → I n ρ → wpB X (whD c body k) ρ N R := by
    intro k
    induction k with
    | zero => intro n ρ h; omega
    | succ k ih =>
      intro n ρ hn hI
      have h1 := hs n ρ hI
      unfold wpB whD
      unfold wpM at h1
      cases ec : c ρ with
      | no => rw [ec] at h1; exact h1.elim
      | ex cc ns ds r => rw [ec] at h1; exact h1
      | ok b ρ1 =>
        rw [ec] at h1
        cases b with
        | false => exact h1
        | true =>
          dsimp only at h1 ⊢
          rw [if_pos rfl] at h1
          unfold wpB at h1
          cases eb : body ρ1 with
          | nx ρ2 =>
            rw [eb] at h1
            obtain ⟨m, hm, hI2⟩ := h1
            exact ih m ρ2 (by omega) hI2
          | rt d ρ2 => rw [eb] at h1; exact h1
          | ex _ _ _ _ => rw [eb] at h1; exact h1
          | _ => rw [eb] at h1; exact h1.elim
  obtain ⟨n, hn, hI⟩ := h0
  exact go _ n ρ hn hI
theorem sp_of {F : FN} {args as : En} {d : D} {P : D → En → Prop} (h : F args = .ok d as) (p : P d as) : sp X F args P := by
  unfold sp
  rw [h]
  exact p
end
end Vi

namespace Vi
open PySem PySem.Spec L2
/-- what an answer, where there is one, is to be -/
def oQ {α : Type} (o : Option α) (P : α → Prop) : Prop := match o with
  | some a => P a
  | none => False
section
variable {X : XP} {α β : Type} {ρ : En} {N : En → Prop} {R : D → En → Prop} {Q : D → En → Prop}
theorem ob_some {a : α} {P : α → Prop} : oQ (some a) P = P a := (rfl)
theorem ob_none {P : α → Prop} : oQ none P = False := (rfl)
theorem ob_if {c : Prop} [Decidable c] {a : α} {P : α → Prop} : oQ (if c then some a else none) P = (c ∧ P a) := by
  by_cases h : c
  · rw [if_pos h, eq_true h, true_and]; rfl
  · rw [if_neg h, eq_false h, false_and]; rfl
theorem ob_map {o : Option α} {f : α → β} {P : β → Prop} : oQ (o.map f) P = oQ o fun a => P (f a) := by cases o <;> rfl
theorem wq_opt {o : Option α} {Q : α → En → Prop} : wpM X (opt o) ρ Q = oQ o fun a => Q a ρ := wp_opt.trans (by cases o <;> rfl)
theorem wq_opx {o : List D → Option α} {ss : List (Sum Nat D)} {Q : α → En → Prop} : wpM X (opx o ss) ρ Q = oQ (rds ρ ss) fun ds => oQ (o ds) fun d => Q d ρ := by
  rw [wp_opx]
  cases rds ρ ss with
  | none => rfl
  | some ds => dsimp only; cases h : o ds <;> simp only [oQ, h]
theorem wq_nm {i : Nat} {Q : Sum Nat D → En → Prop} : wpM X (ev (.nm i)) ρ Q = oQ (rdS ρ i) fun _ => Q (.inl i) ρ := by
  rw [wp_ev]
  dsimp only
  cases rdS ρ i <;> rfl
theorem wq_ex {f : M D} {Q : Sum Nat D → En → Prop} : wpM X (ev (.ex f)) ρ Q = wpM X f ρ fun d ρ' => Q (.inr d) ρ' := by rw [wp_ev]
theorem wq_seq {f : M D} {Q : List D → En → Prop} : wpM X (itSeq f) ρ Q = wpM X f ρ fun d ρ' => oQ (seqD d) fun ds => Q ds ρ' := by
  rw [wp_seq]
  congr 1
  funext d ρ'
  cases h : seqD d <;> simp only [oQ, h]
theorem wq_asg {tg : Tg} {f : M D} : wpB X (vAsg tg f) ρ N R = wpM X f ρ fun d ρ' => oQ (asgT tg d ρ') N := by
  rw [wb_asg]
  congr 1
  funext d ρ'
  cases h : asgT tg d ρ' <;> simp only [oQ, h]
theorem wq_slx {o : D → Option Int → Option Int → Option β} {s : Sum Nat D} {i j : Option Int} {Q : β → En → Prop} : wpM X (slx o s i j) ρ Q = oQ (rd ρ s) fun d => oQ (o d i j) fun z => Q z ρ := by
  rw [wp_slx]
  cases rd ρ s with
  | none => rfl
  | some d => dsimp only; cases h : o d i j <;> simp only [oQ, h]
theorem rds0 : rds ρ [] = some [] := (rfl)
theorem rdsL {i : Nat} {ss : List (Sum Nat D)} {P : List D → Prop} : oQ (rds ρ (.inl i :: ss)) P = oQ (rdS ρ i) fun d => oQ (rds ρ ss) fun ds => P (d :: ds) := by
  show oQ (match rd ρ (.inl i) with
    | some d => _
    | none => none) P = _
  show oQ (match rdS ρ i with
    | some d => _
    | none => none) P = _
  cases rdS ρ i with
  | none => rfl
  | some d => dsimp only; cases rds ρ ss <;> rfl
theorem rdsR {d : D} {ss : List (Sum Nat D)} {P : List D → Prop} : oQ (rds ρ (.inr d :: ss)) P = oQ (rds ρ ss) fun ds => P (d :: ds) := by
  simp only [rds, rd]
  cases rds ρ ss <;> rfl
theorem rd_l {i : Nat} : rd ρ (.inl i) = rdS ρ i := (rfl)
theorem rd_r {d : D} : rd ρ (.inr d) = some d := (rfl)
theorem ii_i {C : Int → Int → Bool} {f : Int → Int → D} {i j : Int} : ii C f (.int i) (.int j) = if C i j = true then some (f i j) else none := (rfl)
theorem ii0_i {f : Int → Int → D} {i j : Int} : ii0 f (.int i) (.int j) = some (f i j) := (rfl)
theorem add_i {i j : Int} : addD (.int i) (.int j) = some (.int (i + j)) := (rfl)
theorem add_l {a b : List D} : addD (.lst a) (.lst b) = if (a ++ b).length ≤ sizeLine then some (.lst (a ++ b)) else none := (rfl)
theorem mul_i {i j : Int} : mulD (.int i) (.int j) = if i.natAbs.log2 + j.natAbs.log2 < 1000000 then some (.int (i * j)) else none := (rfl)
theorem mul_l {xs : List D} {k : Int} : mulD (.lst xs) (.int k) = if -(2 ^ 63) ≤ k ∧ k < 2 ^ 63 ∧ xs.length * k.toNat ≤ sizeLine then some (.lst (List.replicate k.toNat xs).flatten) else none := (rfl)
theorem mulo_l {xs : List D} {k : Int} : mulO (.lst xs) (.int k) = if -(2 ^ 63) ≤ k ∧ k < 2 ^ 63 ∧ xs.length * k.toNat ≤ sizeLine then some (.lst (List.replicate k.toNat xs).flatten) else none := (rfl)
theorem int_i {i : Int} : intD (.int i) = some (.int i) := (rfl)
theorem neg_i {i : Int} : negD (.int i) = some (.int (-i)) := (rfl)
theorem abs_i {i : Int} : absD (.int i) = some (.int (if i < 0 then -i else i)) := (rfl)
theorem len_l {xs : List D} : lenD (.lst xs) = some (.int xs.length) := (rfl)
theorem len_t {xs : List D} : lenD (.tup xs) = some (.int xs.length) := (rfl)
theorem tup_l {xs : List D} : tupD (.lst xs) = some (.tup xs) := (rfl)
theorem tup_t {xs : List D} : tupD (.tup xs) = some (.tup xs) := (rfl)
theorem lst_l {xs : List D} : listO (.lst xs) = some (.lst xs) := (rfl)
theorem lst_t {xs : List D} : listO (.tup xs) = some (.lst xs) := (rfl)
theorem seq_l {xs : List D} : seqD (.lst xs) = some xs := (rfl)
theorem seq_t {xs : List D} : seqD (.tup xs) = some xs := (rfl)
theorem toD_l {xs : List D} : MO.toD (.lst xs) = .lst xs := (rfl)
theorem ix_l {xs : List D} {i : Int} : ixD (.lst xs) (.int i) = atI xs i := (rfl)
theorem ix_t {xs : List D} {i : Int} : ixD (.tup xs) (.int i) = atI xs i := (rfl)
theorem eq_i {i j : Int} : eqD (.int i) (.int j) = some (.bl (decide (i = j))) := (rfl)
theorem ne_i {i j : Int} : neD (.int i) (.int j) = some (.bl (!decide (i = j))) := (rfl)
theorem eq_s {i j : Str} : eqD (.str i) (.str j) = some (.bl (decide (i = j))) := (rfl)
theorem ne_s {i j : Str} : neD (.str i) (.str j) = some (.bl (!decide (i = j))) := (rfl)
theorem eq_b {i j : Bool} : eqD (.bl i) (.bl j) = some (.bl (decide (i = j))) := (rfl)
theorem ne_b {i j : Bool} : neD (.bl i) (.bl j) = some (.bl (!decide (i = j))) := (rfl)
theorem rng_i {j : Int} : rng1D (.int j) = if -(2 ^ 62) ≤ j ∧ j < 2 ^ 62 then some (rngL 0 1 j.toNat) else none := (rfl)
theorem rng_3 {i j c : Int} : rng3D (.int i) (.int j) (.int c) = if c = -1 ∧ -(2 ^ 62) ≤ i ∧ i < 2 ^ 62 ∧ -(2 ^ 62) ≤ j ∧ j < 2 ^ 62 then some (rngL i (-1) (i - j).toNat) else none := (rfl)
theorem at6_0 {a b c d e f : D} : atI [a, b, c, d, e, f] 0 = some a := (rfl)
theorem at6_1 {a b c d e f : D} : atI [a, b, c, d, e, f] 1 = some b := (rfl)
theorem at6_2 {a b c d e f : D} : atI [a, b, c, d, e, f] 2 = some c := (rfl)
theorem at6_3 {a b c d e f : D} : atI [a, b, c, d, e, f] 3 = some d := (rfl)
theorem at6_4 {a b c d e f : D} : atI [a, b, c, d, e, f] 4 = some e := (rfl)
theorem at6_5 {a b c d e f : D} : atI [a, b, c, d, e, f] 5 = some f := (rfl)
theorem ix6_1 {a b c d e f : D} : ixN [a, b, c, d, e, f].length 1 = some 1 := (rfl)
theorem ix6_2 {a b c d e f : D} : ixN [a, b, c, d, e, f].length 2 = some 2 := (rfl)
theorem ix6_3 {a b c d e f : D} : ixN [a, b, c, d, e, f].length 3 = some 3 := (rfl)
theorem ix6_4 {a b c d e f : D} : ixN [a, b, c, d, e, f].length 4 = some 4 := (rfl)
def putQ (k : D) (o : Option MO) (P : List D → Nat → Prop) : Prop := match k, o with
  | .int k, some (.lst ds) => oQ (ixN ds.length k) (P ds)
  | _, _ => False
theorem putQ_i {k : Int} {ds : List D} {P : List D → Nat → Prop} : putQ (.int k) (some (.lst ds)) P = oQ (ixN ds.length k) (P ds) := (rfl)
theorem wq_put {i : Nat} {fx fv : M D} : wpB X (vPut i fx fv) ρ N R = wpM X fv ρ fun d ρ0 => isLst ρ0 i = true ∧ (wpM X fx ρ0 fun k ρ1 => putQ k (owS ρ1 i) fun ds j => N (putM ρ1 i (.lst (ds.set j d)))) := by
  rw [wb_put]
  congr 1
  funext d ρ0
  congr 2
  funext k ρ1
  cases k with
  | int k =>
    cases owS ρ1 i with
    | none => rfl
    | some m =>
      cases m with
      | lst ds => dsimp only [putQ, oQ]; cases ixN ds.length k <;> rfl
      | _ => rfl
  | _ => rfl
def muQ (as : En) (P : MO → Prop) : Prop := match as with
  | .mu m :: _ => P m
  | _ => False
theorem muQ_m {m : MO} {r : En} {P : MO → Prop} : muQ (.mu m :: r) P = P m := (rfl)
theorem wq_callM {F : FN} {i : Nat} {fs : List (M D)} (h : (owS ρ i).isSome = true) : wpM XF (vCallM F i fs) ρ Q = wpM XF (evd fs) ρ fun ds ρ' => oQ (owS ρ' i) fun m => sp XF F (.mu m :: ds.map .dat) fun d as => muQ as fun m' => Q d (putM ρ' i m') := by
  rw [wp_callM h]
  congr 1
  funext ds ρ'
  cases owS ρ' i with
  | none => rfl
  | some m =>
    rfl
def appQ (o : Option MO) (P : List D → Prop) : Prop := match o with
  | some (.lst ds) => ds.length < sizeLine ∧ P ds
  | _ => False
theorem appQ_l {ds : List D} {P : List D → Prop} : appQ (some (.lst ds)) P = (ds.length < sizeLine ∧ P ds) := (rfl)
theorem wq_app {i : Nat} {f : M D} (h : isLst ρ i = true) : wpB X (vApp i f) ρ N R = wpM X f ρ fun d ρ1 => appQ (owS ρ1 i) fun ds => N (putM ρ1 i (.lst (ds ++ [d]))) := by
  rw [wb_app h]
  rfl
theorem back_m {m m' : MO} {as r : En} : back (.mu m :: as) (.mu m' :: r) = some (.mu m' :: as) := (rfl)
theorem back_d {d : D} {as r : En} : back (.dat d :: as) r = some (.dat d :: as) := (rfl)
theorem at_n {xs : List D} {i : Int} (h0 : 0 ≤ i) (h1 : i < xs.length) : atI xs i = xs[i.toNat]? := by
  unfold atI
  rw [show ixN xs.length i = some i.toNat by unfold ixN; rw [if_pos h0, if_pos h1]]
  rfl
theorem ixN_n {n : Nat} {i : Int} (h0 : 0 ≤ i) (h1 : i < n) : ixN n i = some i.toNat := by
  unfold ixN
  rw [if_pos h0, if_pos h1]
theorem rng_get {k : Nat} {n : Nat} {d : D} (h : (rngL 0 1 n)[k]? = some d) : d = .int k ∧ k < n := by
  unfold rngL at h
  rw [List.getElem?_map] at h
  by_cases q : k < n
  · rw [List.getElem?_range q] at h
    cases h
    exact ⟨by simp, q⟩
  · rw [List.getElem?_eq_none (by rw [List.length_range]; omega)] at h
    cases h
theorem mod_i {i j : Int} : modD (.int i) (.int j) = if modC i j = true then some (.int (i.fmod j)) else none := (rfl)
theorem fdv_i {i j : Int} : fdivD (.int i) (.int j) = if divC i j = true then some (.int (i.fdiv j)) else none := (rfl)
theorem pw_of {i : Int} {j k : Int} (h : powC i j = true) (e : i ^ j.toNat = k) : powD (.int i) (.int j) = some (.int k) := by
  subst e
  exact if_pos h
theorem pw6 : powD (.int 10) (.int 6) = some (.int 1000000) := pw_of (by decide +kernel) (by decide +kernel)
theorem pw12 : powD (.int 10) (.int 12) = some (.int 1000000000000) := pw_of (by decide +kernel) (by decide +kernel)
theorem pw18 : powD (.int 10) (.int 18) = some (.int 1000000000000000000) := pw_of (by decide +kernel) (by decide +kernel)
theorem pw24 : powD (.int 10) (.int 24) = some (.int 1000000000000000000000000) := pw_of (by decide +kernel) (by decide +kernel)
theorem pw29 : powD (.int 10) (.int 29) = some (.int 100000000000000000000000000000) := pw_of (by decide +kernel) (by decide +kernel)
theorem pw30 : powD (.int 10) (.int 30) = some (.int 1000000000000000000000000000000) := pw_of (by decide +kernel) (by decide +kernel)
theorem pw60 : powD (.int 10) (.int 60) = some (.int 1000000000000000000000000000000000000000000000000000000000000) := pw_of (by decide +kernel) (by decide +kernel)
theorem at_mem {xs : List D} {i : Int} (h0 : 0 ≤ i) (h1 : i < xs.length) : ∃ x, x ∈ xs ∧ atI xs i = some x := by
  rw [at_n h0 h1, List.getElem?_eq_getElem (by omega)]
  exact ⟨_, List.getElem_mem _, rfl⟩
theorem wq_callL {F : FN} {as : List Ar} : wpM XF (vCallL F as) ρ Q = wpM XF (evs as) ρ fun ss ρ' => oQ (rds ρ' ss) fun ds => sp XF F (ds.map .dat) fun d _ => scalD d = true ∧ Q d ρ' := by
  rw [wp_callL]
  congr 1
  funext ss ρ'
  cases rds ρ' ss <;> rfl
theorem asg_t {is : List Nat} {ds : List D} : asgT (.tup is) (.tup ds) ρ = asgs is ds ρ := (rfl)
theorem asgs0 : asgs [] [] ρ = some ρ := (rfl)
theorem asgsC {i : Nat} {is : List Nat} {d : D} {ds : List D} : asgs (i :: is) (d :: ds) ρ = asgs is ds (ρ.set i (.dat d)) := (rfl)
theorem wq_var {i : Nat} {Q : D → En → Prop} : wpM X (vVar i) ρ Q = oQ ρ[i]? fun s => (match s with
    | .dat d => Q d ρ
    | .own m => Q m.toD (ρ.set i (.dat m.toD))
    | _ => False) := by
  rw [wp_var]
  cases ρ[i]? with
  | none => rfl
  | some s => cases s <;> rfl
theorem asg_nm {i : Nat} {d : D} : asgT (.nm i) d ρ = some (ρ.set i (.dat d)) := (rfl)
theorem o1_1 {f : D → Option β} {a : D} : o1 f [a] = f a := (rfl)
theorem o2_2 {f : D → D → Option β} {a b : D} : o2 f [a, b] = f a b := (rfl)
theorem o3_3 {f : D → D → D → Option β} {a b c : D} : o3 f [a, b, c] = f a b c := (rfl)

theorem gk0 {α : Type} {x0 : α} {l : List α} : (x0 :: l)[0]? = some x0 := (rfl)
theorem sk0 {α : Type} {x0 y : α} {l : List α} : (x0 :: l).set 0 y = y :: l := (rfl)
theorem rkd0 {x : D} {l : En} : rdS ((.dat x) :: l) 0 = some x := (rfl)
theorem rko0 {x : MO} {l : En} : rdS ((.own x) :: l) 0 = some x.toD := (rfl)
theorem rkm0 {x : MO} {l : En} : rdS ((.mu x) :: l) 0 = some x.toD := (rfl)
theorem oko0 {x : MO} {l : En} : owS ((.own x) :: l) 0 = some x := (rfl)
theorem pko0 {x y : MO} {l : En} : putM ((.own x) :: l) 0 y = (.own y) :: l := (rfl)
theorem lko0 {ds : List D} {l : En} : isLst ((.own (.lst ds)) :: l) 0 = true := (rfl)
theorem okm0 {x : MO} {l : En} : owS ((.mu x) :: l) 0 = some x := (rfl)
theorem pkm0 {x y : MO} {l : En} : putM ((.mu x) :: l) 0 y = (.mu y) :: l := (rfl)
theorem lkm0 {ds : List D} {l : En} : isLst ((.mu (.lst ds)) :: l) 0 = true := (rfl)
theorem gk1 {α : Type} {x0 x1 : α} {l : List α} : (x0 :: x1 :: l)[1]? = some x1 := (rfl)
theorem sk1 {α : Type} {x0 x1 y : α} {l : List α} : (x0 :: x1 :: l).set 1 y = x0 :: y :: l := (rfl)
theorem rkd1 {x0 : Sl} {x : D} {l : En} : rdS (x0 :: (.dat x) :: l) 1 = some x := (rfl)
theorem rko1 {x0 : Sl} {x : MO} {l : En} : rdS (x0 :: (.own x) :: l) 1 = some x.toD := (rfl)
theorem rkm1 {x0 : Sl} {x : MO} {l : En} : rdS (x0 :: (.mu x) :: l) 1 = some x.toD := (rfl)
theorem oko1 {x0 : Sl} {x : MO} {l : En} : owS (x0 :: (.own x) :: l) 1 = some x := (rfl)
theorem pko1 {x0 : Sl} {x y : MO} {l : En} : putM (x0 :: (.own x) :: l) 1 y = x0 :: (.own y) :: l := (rfl)
theorem lko1 {x0 : Sl} {ds : List D} {l : En} : isLst (x0 :: (.own (.lst ds)) :: l) 1 = true := (rfl)
theorem okm1 {x0 : Sl} {x : MO} {l : En} : owS (x0 :: (.mu x) :: l) 1 = some x := (rfl)
theorem pkm1 {x0 : Sl} {x y : MO} {l : En} : putM (x0 :: (.mu x) :: l) 1 y = x0 :: (.mu y) :: l := (rfl)
theorem lkm1 {x0 : Sl} {ds : List D} {l : En} : isLst (x0 :: (.mu (.lst ds)) :: l) 1 = true := (rfl)
theorem gk2 {α : Type} {x0 x1 x2 : α} {l : List α} : (x0 :: x1 :: x2 :: l)[2]? = some x2 := (rfl)
theorem sk2 {α : Type} {x0 x1 x2 y : α} {l : List α} : (x0 :: x1 :: x2 :: l).set 2 y = x0 :: x1 :: y :: l := (rfl)
theorem rkd2 {x0 x1 : Sl} {x : D} {l : En} : rdS (x0 :: x1 :: (.dat x) :: l) 2 = some x := (rfl)
theorem rko2 {x0 x1 : Sl} {x : MO} {l : En} : rdS (x0 :: x1 :: (.own x) :: l) 2 = some x.toD := (rfl)
theorem rkm2 {x0 x1 : Sl} {x : MO} {l : En} : rdS (x0 :: x1 :: (.mu x) :: l) 2 = some x.toD := (rfl)
theorem oko2 {x0 x1 : Sl} {x : MO} {l : En} : owS (x0 :: x1 :: (.own x) :: l) 2 = some x := (rfl)
theorem pko2 {x0 x1 : Sl} {x y : MO} {l : En} : putM (x0 :: x1 :: (.own x) :: l) 2 y = x0 :: x1 :: (.own y) :: l := (rfl)
theorem lko2 {x0 x1 : Sl} {ds : List D} {l : En} : isLst (x0 :: x1 :: (.own (.lst ds)) :: l) 2 = true := (rfl)
theorem okm2 {x0 x1 : Sl} {x : MO} {l : En} : owS (x0 :: x1 :: (.mu x) :: l) 2 = some x := (rfl)
theorem pkm2 {x0 x1 : Sl} {x y : MO} {l : En} : putM (x0 :: x1 :: (.mu x) :: l) 2 y = x0 :: x1 :: (.mu y) :: l := (rfl)
theorem lkm2 {x0 x1 : Sl} {ds : List D} {l : En} : isLst (x0 :: x1 :: (.mu (.lst ds)) :: l) 2 = true := (rfl)
theorem gk3 {α : Type} {x0 x1 x2 x3 : α} {l : List α} : (x0 :: x1 :: x2 :: x3 :: l)[3]? = some x3 := (rfl)
theorem sk3 {α : Type} {x0 x1 x2 x3 y : α} {l : List α} : (x0 :: x1 :: x2 :: x3 :: l).set 3 y = x0 :: x1 :: x2 :: y :: l := (rfl)
theorem rkd3 {x0 x1 x2 : Sl} {x : D} {l : En} : rdS (x0 :: x1 :: x2 :: (.dat x) :: l) 3 = some x := (rfl)
theorem rko3 {x0 x1 x2 : Sl} {x : MO} {l : En} : rdS (x0 :: x1 :: x2 :: (.own x) :: l) 3 = some x.toD := (rfl)
theorem rkm3 {x0 x1 x2 : Sl} {x : MO} {l : En} : rdS (x0 :: x1 :: x2 :: (.mu x) :: l) 3 = some x.toD := (rfl)
theorem oko3 {x0 x1 x2 : Sl} {x : MO} {l : En} : owS (x0 :: x1 :: x2 :: (.own x) :: l) 3 = some x := (rfl)
theorem pko3 {x0 x1 x2 : Sl} {x y : MO} {l : En} : putM (x0 :: x1 :: x2 :: (.own x) :: l) 3 y = x0 :: x1 :: x2 :: (.own y) :: l := (rfl)
theorem lko3 {x0 x1 x2 : Sl} {ds : List D} {l : En} : isLst (x0 :: x1 :: x2 :: (.own (.lst ds)) :: l) 3 = true := (rfl)
theorem okm3 {x0 x1 x2 : Sl} {x : MO} {l : En} : owS (x0 :: x1 :: x2 :: (.mu x) :: l) 3 = some x := (rfl)
theorem pkm3 {x0 x1 x2 : Sl} {x y : MO} {l : En} : putM (x0 :: x1 :: x2 :: (.mu x) :: l) 3 y = x0 :: x1 :: x2 :: (.mu y) :: l := (rfl)
theorem lkm3 {x0 x1 x2 : Sl} {ds : List D} {l : En} : isLst (x0 :: x1 :: x2 :: (.mu (.lst ds)) :: l) 3 = true := (rfl)
theorem gk4 {α : Type} {x0 x1 x2 x3 x4 : α} {l : List α} : (x0 :: x1 :: x2 :: x3 :: x4 :: l)[4]? = some x4 := (rfl)
theorem sk4 {α : Type} {x0 x1 x2 x3 x4 y : α} {l : List α} : (x0 :: x1 :: x2 :: x3 :: x4 :: l).set 4 y = x0 :: x1 :: x2 :: x3 :: y :: l := (rfl)
theorem rkd4 {x0 x1 x2 x3 : Sl} {x : D} {l : En} : rdS (x0 :: x1 :: x2 :: x3 :: (.dat x) :: l) 4 = some x := (rfl)
theorem rko4 {x0 x1 x2 x3 : Sl} {x : MO} {l : En} : rdS (x0 :: x1 :: x2 :: x3 :: (.own x) :: l) 4 = some x.toD := (rfl)
theorem rkm4 {x0 x1 x2 x3 : Sl} {x : MO} {l : En} : rdS (x0 :: x1 :: x2 :: x3 :: (.mu x) :: l) 4 = some x.toD := (rfl)
theorem oko4 {x0 x1 x2 x3 : Sl} {x : MO} {l : En} : owS (x0 :: x1 :: x2 :: x3 :: (.own x) :: l) 4 = some x := (rfl)
theorem pko4 {x0 x1 x2 x3 : Sl} {x y : MO} {l : En} : putM (x0 :: x1 :: x2 :: x3 :: (.own x) :: l) 4 y = x0 :: x1 :: x2 :: x3 :: (.own y) :: l := (rfl)
theorem lko4 {x0 x1 x2 x3 : Sl} {ds : List D} {l : En} : isLst (x0 :: x1 :: x2 :: x3 :: (.own (.lst ds)) :: l) 4 = true := (rfl)
theorem okm4 {x0 x1 x2 x3 : Sl} {x : MO} {l : En} : owS (x0 :: x1 :: x2 :: x3 :: (.mu x) :: l) 4 = some x := (rfl)
theorem pkm4 {x0 x1 x2 x3 : Sl} {x y : MO} {l : En} : putM (x0 :: x1 :: x2 :: x3 :: (.mu x) :: l) 4 y = x0 :: x1 :: x2 :: x3 :: (.mu y) :: l := (rfl)
theorem lkm4 {x0 x1 x2 x3 : Sl} {ds : List D} {l : En} : isLst (x0 :: x1 :: x2 :: x3 :: (.mu (.lst ds)) :: l) 4 = true := (rfl)
theorem gk5 {α : Type} {x0 x1 x2 x3 x4 x5 : α} {l : List α} : (x0 :: x1 :: x2 :: x3 :: x4 :: x5 :: l)[5]? = some x5 := (rfl)
theorem sk5 {α : Type} {x0 x1 x2 x3 x4 x5 y : α} {l : List α} : (x0 :: x1 :: x2 :: x3 :: x4 :: x5 :: l).set 5 y = x0 :: x1 :: x2 :: x3 :: x4 :: y :: l := (rfl)
theorem rkd5 {x0 x1 x2 x3 x4 : Sl} {x : D} {l : En} : rdS (x0 :: x1 :: x2 :: x3 :: x4 :: (.dat x) :: l) 5 = some x := (rfl)
theorem rko5 {x0 x1 x2 x3 x4 : Sl} {x : MO} {l : En} : rdS (x0 :: x1 :: x2 :: x3 :: x4 :: (.own x) :: l) 5 = some x.toD := (rfl)
theorem rkm5 {x0 x1 x2 x3 x4 : Sl} {x : MO} {l : En} : rdS (x0 :: x1 :: x2 :: x3 :: x4 :: (.mu x) :: l) 5 = some x.toD := (rfl)
theorem oko5 {x0 x1 x2 x3 x4 : Sl} {x : MO} {l : En} : owS (x0 :: x1 :: x2 :: x3 :: x4 :: (.own x) :: l) 5 = some x := (rfl)
theorem pko5 {x0 x1 x2 x3 x4 : Sl} {x y : MO} {l : En} : putM (x0 :: x1 :: x2 :: x3 :: x4 :: (.own x) :: l) 5 y = x0 :: x1 :: x2 :: x3 :: x4 :: (.own y) :: l := (rfl)
theorem lko5 {x0 x1 x2 x3 x4 : Sl} {ds : List D} {l : En} : isLst (x0 :: x1 :: x2 :: x3 :: x4 :: (.own (.lst ds)) :: l) 5 = true := (rfl)
theorem okm5 {x0 x1 x2 x3 x4 : Sl} {x : MO} {l : En} : owS (x0 :: x1 :: x2 :: x3 :: x4 :: (.mu x) :: l) 5 = some x := (rfl)
theorem pkm5 {x0 x1 x2 x3 x4 : Sl} {x y : MO} {l : En} : putM (x0 :: x1 :: x2 :: x3 :: x4 :: (.mu x) :: l) 5 y = x0 :: x1 :: x2 :: x3 :: x4 :: (.mu y) :: l := (rfl)
theorem lkm5 {x0 x1 x2 x3 x4 : Sl} {ds : List D} {l : En} : isLst (x0 :: x1 :: x2 :: x3 :: x4 :: (.mu (.lst ds)) :: l) 5 = true := (rfl)
theorem gk6 {α : Type} {x0 x1 x2 x3 x4 x5 x6 : α} {l : List α} : (x0 :: x1 :: x2 :: x3 :: x4 :: x5 :: x6 :: l)[6]? = some x6 := (rfl)
theorem sk6 {α : Type} {x0 x1 x2 x3 x4 x5 x6 y : α} {l : List α} : (x0 :: x1 :: x2 :: x3 :: x4 :: x5 :: x6 :: l).set 6 y = x0 :: x1 :: x2 :: x3 :: x4 :: x5 :: y :: l := (rfl)
theorem rkd6 {x0 x1 x2 x3 x4 x5 : Sl} {x : D} {l : En} : rdS (x0 :: x1 :: x2 :: x3 :: x4 :: x5 :: (.dat x) :: l) 6 = some x := (rfl)
theorem rko6 {x0 x1 x2 x3 x4 x5 : Sl} {x : MO} {l : En} : rdS (x0 :: x1 :: x2 :: x3 :: x4 :: x5 :: (.own x) :: l) 6 = some x.toD := (rfl)
theorem rkm6 {x0 x1 x2 x3 x4 x5 : Sl} {x : MO} {l : En} : rdS (x0 :: x1 :: x2 :: x3 :: x4 :: x5 :: (.mu x) :: l) 6 = some x.toD := (rfl)
theorem oko6 {x0 x1 x2 x3 x4 x5 : Sl} {x : MO} {l : En} : owS (x0 :: x1 :: x2 :: x3 :: x4 :: x5 :: (.own x) :: l) 6 = some x := (rfl)
theorem pko6 {x0 x1 x2 x3 x4 x5 : Sl} {x y : MO} {l : En} : putM (x0 :: x1 :: x2 :: x3 :: x4 :: x5 :: (.own x) :: l) 6 y = x0 :: x1 :: x2 :: x3 :: x4 :: x5 :: (.own y) :: l := (rfl)
theorem lko6 {x0 x1 x2 x3 x4 x5 : Sl} {ds : List D} {l : En} : isLst (x0 :: x1 :: x2 :: x3 :: x4 :: x5 :: (.own (.lst ds)) :: l) 6 = true := (rfl)
theorem okm6 {x0 x1 x2 x3 x4 x5 : Sl} {x : MO} {l : En} : owS (x0 :: x1 :: x2 :: x3 :: x4 :: x5 :: (.mu x) :: l) 6 = some x := (rfl)
theorem pkm6 {x0 x1 x2 x3 x4 x5 : Sl} {x y : MO} {l : En} : putM (x0 :: x1 :: x2 :: x3 :: x4 :: x5 :: (.mu x) :: l) 6 y = x0 :: x1 :: x2 :: x3 :: x4 :: x5 :: (.mu y) :: l := (rfl)
theorem lkm6 {x0 x1 x2 x3 x4 x5 : Sl} {ds : List D} {l : En} : isLst (x0 :: x1 :: x2 :: x3 :: x4 :: x5 :: (.mu (.lst ds)) :: l) 6 = true := (rfl)
theorem gk7 {α : Type} {x0 x1 x2 x3 x4 x5 x6 x7 : α} {l : List α} : (x0 :: x1 :: x2 :: x3 :: x4 :: x5 :: x6 :: x7 :: l)[7]? = some x7 := (rfl)
theorem sk7 {α : Type} {x0 x1 x2 x3 x4 x5 x6 x7 y : α} {l : List α} : (x0 :: x1 :: x2 :: x3 :: x4 :: x5 :: x6 :: x7 :: l).set 7 y = x0 :: x1 :: x2 :: x3 :: x4 :: x5 :: x6 :: y :: l := (rfl)
theorem rkd7 {x0 x1 x2 x3 x4 x5 x6 : Sl} {x : D} {l : En} : rdS (x0 :: x1 :: x2 :: x3 :: x4 :: x5 :: x6 :: (.dat x) :: l) 7 = some x := (rfl)
theorem rko7 {x0 x1 x2 x3 x4 x5 x6 : Sl} {x : MO} {l : En} : rdS (x0 :: x1 :: x2 :: x3 :: x4 :: x5 :: x6 :: (.own x) :: l) 7 = some x.toD := (rfl)
theorem rkm7 {x0 x1 x2 x3 x4 x5 x6 : Sl} {x : MO} {l : En} : rdS (x0 :: x1 :: x2 :: x3 :: x4 :: x5 :: x6 :: (.mu x) :: l) 7 = some x.toD := (rfl)
theorem oko7 {x0 x1 x2 x3 x4 x5 x6 : Sl} {x : MO} {l : En} : owS (x0 :: x1 :: x2 :: x3 :: x4 :: x5 :: x6 :: (.own x) :: l) 7 = some x := (rfl)
theorem pko7 {x0 x1 x2 x3 x4 x5 x6 : Sl} {x y : MO} {l : En} : putM (x0 :: x1 :: x2 :: x3 :: x4 :: x5 :: x6 :: (.own x) :: l) 7 y = x0 :: x1 :: x2 :: x3 :: x4 :: x5 :: x6 :: (.own y) :: l := (rfl)
theorem lko7 {x0 x1 x2 x3 x4 x5 x6 : Sl} {ds : List D} {l : En} : isLst (x0 :: x1 :: x2 :: x3 :: x4 :: x5 :: x6 :: (.own (.lst ds)) :: l) 7 = true := (rfl)
theorem okm7 {x0 x1 x2 x3 x4 x5 x6 : Sl} {x : MO} {l : En} : owS (x0 :: x1 :: x2 :: x3 :: x4 :: x5 :: x6 :: (.mu x) :: l) 7 = some x := (rfl)
theorem pkm7 {x0 x1 x2 x3 x4 x5 x6 : Sl} {x y : MO} {l : En} : putM (x0 :: x1 :: x2 :: x3 :: x4 :: x5 :: x6 :: (.mu x) :: l) 7 y = x0 :: x1 :: x2 :: x3 :: x4 :: x5 :: x6 :: (.mu y) :: l := (rfl)
theorem lkm7 {x0 x1 x2 x3 x4 x5 x6 : Sl} {ds : List D} {l : En} : isLst (x0 :: x1 :: x2 :: x3 :: x4 :: x5 :: x6 :: (.mu (.lst ds)) :: l) 7 = true := (rfl)
theorem gk8 {α : Type} {x0 x1 x2 x3 x4 x5 x6 x7 x8 : α} {l : List α} : (x0 :: x1 :: x2 :: x3 :: x4 :: x5 :: x6 :: x7 :: x8 :: l)[8]? = some x8 := (rfl)
theorem sk8 {α : Type} {x0 x1 x2 x3 x4 x5 x6 x7 x8 y : α} {l : List α} : (x0 :: x1 :: x2 :: x3 :: x4 :: x5 :: x6 :: x7 :: x8 :: l).set 8 y = x0 :: x1 :: x2 :: x3 :: x4 :: x5 :: x6 :: x7 :: y :: l := (rfl)
theorem rkd8 {x0 x1 x2 x3 x4 x5 x6 x7 : Sl} {x : D} {l : En} : rdS (x0 :: x1 :: x2 :: x3 :: x4 :: x5 :: x6 :: x7 :: (.dat x) :: l) 8 = some x := (rfl)
theorem rko8 {x0 x1 x2 x3 x4 x5 x6 x7 : Sl} {x : MO} {l : En} : rdS (x0 :: x1 :: x2 :: x3 :: x4 :: x5 :: x6 :: x7 :: (.own x) :: l) 8 = some x.toD := (rfl)
theorem rkm8 {x0 x1 x2 x3 x4 x5 x6 x7 : Sl} {x : MO} {l : En} : rdS (x0 :: x1 :: x2 :: x3 :: x4 :: x5 :: x6 :: x7 :: (.mu x) :: l) 8 = some x.toD := (rfl)
theorem oko8 {x0 x1 x2 x3 x4 x5 x6 x7 : Sl} {x : MO} {l : En} : owS (x0 :: x1 :: x2 :: x3 :: x4 :: x5 :: x6 :: x7 :: (.own x) :: l) 8 = some x := (rfl)
theorem pko8 {x0 x1 x2 x3 x4 x5 x6 x7 : Sl} {x y : MO} {l : En} : putM (x0 :: x1 :: x2 :: x3 :: x4 :: x5 :: x6 :: x7 :: (.own x) :: l) 8 y = x0 :: x1 :: x2 :: x3 :: x4 :: x5 :: x6 :: x7 :: (.own y) :: l := (rfl)
theorem lko8 {x0 x1 x2 x3 x4 x5 x6 x7 : Sl} {ds : List D} {l : En} : isLst (x0 :: x1 :: x2 :: x3 :: x4 :: x5 :: x6 :: x7 :: (.own (.lst ds)) :: l) 8 = true := (rfl)
theorem okm8 {x0 x1 x2 x3 x4 x5 x6 x7 : Sl} {x : MO} {l : En} : owS (x0 :: x1 :: x2 :: x3 :: x4 :: x5 :: x6 :: x7 :: (.mu x) :: l) 8 = some x := (rfl)
theorem pkm8 {x0 x1 x2 x3 x4 x5 x6 x7 : Sl} {x y : MO} {l : En} : putM (x0 :: x1 :: x2 :: x3 :: x4 :: x5 :: x6 :: x7 :: (.mu x) :: l) 8 y = x0 :: x1 :: x2 :: x3 :: x4 :: x5 :: x6 :: x7 :: (.mu y) :: l := (rfl)
theorem lkm8 {x0 x1 x2 x3 x4 x5 x6 x7 : Sl} {ds : List D} {l : En} : isLst (x0 :: x1 :: x2 :: x3 :: x4 :: x5 :: x6 :: x7 :: (.mu (.lst ds)) :: l) 8 = true := (rfl)
theorem gk9 {α : Type} {x0 x1 x2 x3 x4 x5 x6 x7 x8 x9 : α} {l : List α} : (x0 :: x1 :: x2 :: x3 :: x4 :: x5 :: x6 :: x7 :: x8 :: x9 :: l)[9]? = some x9 := (rfl)
theorem sk9 {α : Type} {x0 x1 x2 x3 x4 x5 x6 x7 x8 x9 y : α} {l : List α} : (x0 :: x1 :: x2 :: x3 :: x4 :: x5 :: x6 :: x7 :: x8 :: x9 :: l).set 9 y = x0 :: x1 :: x2 :: x3 :: x4 :: x5 :: x6 :: x7 :: x8 :: y :: l := (rfl)
theorem rkd9 {x0 x1 x2 x3 x4 x5 x6 x7 x8 : Sl} {x : D} {l : En} : rdS (x0 :: x1 :: x2 :: x3 :: x4 :: x5 :: x6 :: x7 :: x8 :: (.dat x) :: l) 9 = some x := (rfl)
theorem rko9 {x0 x1 x2 x3 x4 x5 x6 x7 x8 : Sl} {x : MO} {l : En} : rdS (x0 :: x1 :: x2 :: x3 :: x4 :: x5 :: x6 :: x7 :: x8 :: (.own x) :: l) 9 = some x.toD := (rfl)
theorem rkm9 {x0 x1 x2 x3 x4 x5 x6 x7 x8 : Sl} {x : MO} {l : En} : rdS (x0 :: x1 :: x2 :: x3 :: x4 :: x5 :: x6 :: x7 :: x8 :: (.mu x) :: l) 9 = some x.toD := (rfl)
theorem oko9 {x0 x1 x2 x3 x4 x5 x6 x7 x8 : Sl} {x : MO} {l : En} : owS (x0 :: x1 :: x2 :: x3 :: x4 :: x5 :: x6 :: x7 :: x8 :: (.own x) :: l) 9 = some x := (rfl)
theorem pko9 {x0 x1 x2 x3 x4 x5 x6 x7 x8 : Sl} {x y : MO} {l : En} : putM (x0 :: x1 :: x2 :: x3 :: x4 :: x5 :: x6 :: x7 :: x8 :: (.own x) :: l) 9 y = x0 :: x1 :: x2 :: x3 :: x4 :: x5 :: x6 :: x7 :: x8 :: (.own y) :: l := (rfl)
theorem lko9 {x0 x1 x2 x3 x4 x5 x6 x7 x8 : Sl} {ds : List D} {l : En} : isLst (x0 :: x1 :: x2 :: x3 :: x4 :: x5 :: x6 :: x7 :: x8 :: (.own (.lst ds)) :: l) 9 = true := (rfl)
theorem okm9 {x0 x1 x2 x3 x4 x5 x6 x7 x8 : Sl} {x : MO} {l : En} : owS (x0 :: x1 :: x2 :: x3 :: x4 :: x5 :: x6 :: x7 :: x8 :: (.mu x) :: l) 9 = some x := (rfl)
theorem pkm9 {x0 x1 x2 x3 x4 x5 x6 x7 x8 : Sl} {x y : MO} {l : En} : putM (x0 :: x1 :: x2 :: x3 :: x4 :: x5 :: x6 :: x7 :: x8 :: (.mu x) :: l) 9 y = x0 :: x1 :: x2 :: x3 :: x4 :: x5 :: x6 :: x7 :: x8 :: (.mu y) :: l := (rfl)
theorem lkm9 {x0 x1 x2 x3 x4 x5 x6 x7 x8 : Sl} {ds : List D} {l : En} : isLst (x0 :: x1 :: x2 :: x3 :: x4 :: x5 :: x6 :: x7 :: x8 :: (.mu (.lst ds)) :: l) 9 = true := (rfl)
theorem gk10 {α : Type} {x0 x1 x2 x3 x4 x5 x6 x7 x8 x9 x10 : α} {l : List α} : (x0 :: x1 :: x2 :: x3 :: x4 :: x5 :: x6 :: x7 :: x8 :: x9 :: x10 :: l)[10]? = some x10 := (rfl)
theorem sk10 {α : Type} {x0 x1 x2 x3 x4 x5 x6 x7 x8 x9 x10 y : α} {l : List α} : (x0 :: x1 :: x2 :: x3 :: x4 :: x5 :: x6 :: x7 :: x8 :: x9 :: x10 :: l).set 10 y = x0 :: x1 :: x2 :: x3 :: x4 :: x5 :: x6 :: x7 :: x8 :: x9 :: y :: l := (rfl)
theorem rkd10 {x0 x1 x2 x3 x4 x5 x6 x7 x8 x9 : Sl} {x : D} {l : En} : rdS (x0 :: x1 :: x2 :: x3 :: x4 :: x5 :: x6 :: x7 :: x8 :: x9 :: (.dat x) :: l) 10 = some x := (rfl)
theorem rko10 {x0 x1 x2 x3 x4 x5 x6 x7 x8 x9 : Sl} {x : MO} {l : En} : rdS (x0 :: x1 :: x2 :: x3 :: x4 :: x5 :: x6 :: x7 :: x8 :: x9 :: (.own x) :: l) 10 = some x.toD := (rfl)
theorem rkm10 {x0 x1 x2 x3 x4 x5 x6 x7 x8 x9 : Sl} {x : MO} {l : En} : rdS (x0 :: x1 :: x2 :: x3 :: x4 :: x5 :: x6 :: x7 :: x8 :: x9 :: (.mu x) :: l) 10 = some x.toD := (rfl)
theorem oko10 {x0 x1 x2 x3 x4 x5 x6 x7 x8 x9 : Sl} {x : MO} {l : En} : owS (x0 :: x1 :: x2 :: x3 :: x4 :: x5 :: x6 :: x7 :: x8 :: x9 :: (.own x) :: l) 10 = some x := (rfl)
theorem pko10 {x0 x1 x2 x3 x4 x5 x6 x7 x8 x9 : Sl} {x y : MO} {l : En} : putM (x0 :: x1 :: x2 :: x3 :: x4 :: x5 :: x6 :: x7 :: x8 :: x9 :: (.own x) :: l) 10 y = x0 :: x1 :: x2 :: x3 :: x4 :: x5 :: x6 :: x7 :: x8 :: x9 :: (.own y) :: l := (rfl)
theorem lko10 {x0 x1 x2 x3 x4 x5 x6 x7 x8 x9 : Sl} {ds : List D} {l : En} : isLst (x0 :: x1 :: x2 :: x3 :: x4 :: x5 :: x6 :: x7 :: x8 :: x9 :: (.own (.lst ds)) :: l) 10 = true := (rfl)
theorem okm10 {x0 x1 x2 x3 x4 x5 x6 x7 x8 x9 : Sl} {x : MO} {l : En} : owS (x0 :: x1 :: x2 :: x3 :: x4 :: x5 :: x6 :: x7 :: x8 :: x9 :: (.mu x) :: l) 10 = some x := (rfl)
theorem pkm10 {x0 x1 x2 x3 x4 x5 x6 x7 x8 x9 : Sl} {x y : MO} {l : En} : putM (x0 :: x1 :: x2 :: x3 :: x4 :: x5 :: x6 :: x7 :: x8 :: x9 :: (.mu x) :: l) 10 y = x0 :: x1 :: x2 :: x3 :: x4 :: x5 :: x6 :: x7 :: x8 :: x9 :: (.mu y) :: l := (rfl)
theorem lkm10 {x0 x1 x2 x3 x4 x5 x6 x7 x8 x9 : Sl} {ds : List D} {l : En} : isLst (x0 :: x1 :: x2 :: x3 :: x4 :: x5 :: x6 :: x7 :: x8 :: x9 :: (.mu (.lst ds)) :: l) 10 = true := (rfl)
theorem gk11 {α : Type} {x0 x1 x2 x3 x4 x5 x6 x7 x8 x9 x10 x11 : α} {l : List α} : (x0 :: x1 :: x2 :: x3 :: x4 :: x5 :: x6 :: x7 :: x8 :: x9 :: x10 :: x11 :: l)[11]? = some x11 := (rfl)
theorem sk11 {α : Type} {x0 x1 x2 x3 x4 x5 x6 x7 x8 x9 x10 x11 y : α} {l : List α} : (x0 :: x1 :: x2 :: x3 :: x4 :: x5 :: x6 :: x7 :: x8 :: x9 :: x10 :: x11 :: l).set 11 y = x0 :: x1 :: x2 :: x3 :: x4 :: x5 :: x6 :: x7 :: x8 :: x9 :: x10 :: y :: l := (rfl)
theorem rkd11 {x0 x1 x2 x3 x4 x5 x6 x7 x8 x9 x10 : Sl} {x : D} {l : En} : rdS (x0 :: x1 :: x2 :: x3 :: x4 :: x5 :: x6 :: x7 :: x8 :: x9 :: x10 :: (.dat x) :: l) 11 = some x := (rfl)
theorem rko11 {x0 x1 x2 x3 x4 x5 x6 x7 x8 x9 x10 : Sl} {x : MO} {l : En} : rdS (x0 :: x1 :: x2 :: x3 :: x4 :: x5 :: x6 :: x7 :: x8 :: x9 :: x10 :: (.own x) :: l) 11 = some x.toD := (rfl)
theorem rkm11 {x0 x1 x2 x3 x4 x5 x6 x7 x8 x9 x10 : Sl} {x : MO} {l : En} : rdS (x0 :: x1 :: x2 :: x3 :: x4 :: x5 :: x6 :: x7 :: x8 :: x9 :: x10 :: (.mu x) :: l) 11 = some x.toD := (rfl)
theorem oko11 {x0 x1 x2 x3 x4 x5 x6 x7 x8 x9 x10 : Sl} {x : MO} {l : En} : owS (x0 :: x1 :: x2 :: x3 :: x4 :: x5 :: x6 :: x7 :: x8 :: x9 :: x10 :: (.own x) :: l) 11 = some x := (rfl)
theorem pko11 {x0 x1 x2 x3 x4 x5 x6 x7 x8 x9 x10 : Sl} {x y : MO} {l : En} : putM (x0 :: x1 :: x2 :: x3 :: x4 :: x5 :: x6 :: x7 :: x8 :: x9 :: x10 :: (.own x) :: l) 11 y = x0 :: x1 :: x2 :: x3 :: x4 :: x5 :: x6 :: x7 :: x8 :: x9 :: x10 :: (.own y) :: l := (rfl)
theorem lko11 {x0 x1 x2 x3 x4 x5 x6 x7 x8 x9 x10 : Sl} {ds : List D} {l : En} : isLst (x0 :: x1 :: x2 :: x3 :: x4 :: x5 :: x6 :: x7 :: x8 :: x9 :: x10 :: (.own (.lst ds)) :: l) 11 = true := (rfl)
theorem okm11 {x0 x1 x2 x3 x4 x5 x6 x7 x8 x9 x10 : Sl} {x : MO} {l : En} : owS (x0 :: x1 :: x2 :: x3 :: x4 :: x5 :: x6 :: x7 :: x8 :: x9 :: x10 :: (.mu x) :: l) 11 = some x := (rfl)
theorem pkm11 {x0 x1 x2 x3 x4 x5 x6 x7 x8 x9 x10 : Sl} {x y : MO} {l : En} : putM (x0 :: x1 :: x2 :: x3 :: x4 :: x5 :: x6 :: x7 :: x8 :: x9 :: x10 :: (.mu x) :: l) 11 y = x0 :: x1 :: x2 :: x3 :: x4 :: x5 :: x6 :: x7 :: x8 :: x9 :: x10 :: (.mu y) :: l := (rfl)
theorem lkm11 {x0 x1 x2 x3 x4 x5 x6 x7 x8 x9 x10 : Sl} {ds : List D} {l : En} : isLst (x0 :: x1 :: x2 :: x3 :: x4 :: x5 :: x6 :: x7 :: x8 :: x9 :: x10 :: (.mu (.lst ds)) :: l) 11 = true := (rfl)
theorem gk12 {α : Type} {x0 x1 x2 x3 x4 x5 x6 x7 x8 x9 x10 x11 x12 : α} {l : List α} : (x0 :: x1 :: x2 :: x3 :: x4 :: x5 :: x6 :: x7 :: x8 :: x9 :: x10 :: x11 :: x12 :: l)[12]? = some x12 := (rfl)
theorem sk12 {α : Type} {x0 x1 x2 x3 x4 x5 x6 x7 x8 x9 x10 x11 x12 y : α} {l : List α} : (x0 :: x1 :: x2 :: x3 :: x4 :: x5 :: x6 :: x7 :: x8 :: x9 :: x10 :: x11 :: x12 :: l).set 12 y = x0 :: x1 :: x2 :: x3 :: x4 :: x5 :: x6 :: x7 :: x8 :: x9 :: x10 :: x11 :: y :: l := (rfl)
theorem rkd12 {x0 x1 x2 x3 x4 x5 x6 x7 x8 x9 x10 x11 : Sl} {x : D} {l : En} : rdS (x0 :: x1 :: x2 :: x3 :: x4 :: x5 :: x6 :: x7 :: x8 :: x9 :: x10 :: x11 :: (.dat x) :: l) 12 = some x := (rfl)
theorem rko12 {x0 x1 x2 x3 x4 x5 x6 x7 x8 x9 x10 x11 : Sl} {x : MO} {l : En} : rdS (x0 :: x1 :: x2 :: x3 :: x4 :: x5 :: x6 :: x7 :: x8 :: x9 :: x10 :: x11 :: (.own x) :: l) 12 = some x.toD := (rfl)
theorem rkm12 {x0 x1 x2 x3 x4 x5 x6 x7 x8 x9 x10 x11 : Sl} {x : MO} {l : En} : rdS (x0 :: x1 :: x2 :: x3 :: x4 :: x5 :: x6 :: x7 :: x8 :: x9 :: x10 :: x11 :: (.mu x) :: l) 12 = some x.toD := (rfl)
theorem oko12 {x0 x1 x2 x3 x4 x5 x6 x7 x8 x9 x10 x11 : Sl} {x : MO} {l : En} : owS (x0 :: x1 :: x2 :: x3 :: x4 :: x5 :: x6 :: x7 :: x8 :: x9 :: x10 :: x11 :: (.own x) :: l) 12 = some x := (rfl)
theorem pko12 {x0 x1 x2 x3 x4 x5 x6 x7 x8 x9 x10 x11 : Sl} {x y : MO} {l : En} : putM (x0 :: x1 :: x2 :: x3 :: x4 :: x5 :: x6 :: x7 :: x8 :: x9 :: x10 :: x11 :: (.own x) :: l) 12 y = x0 :: x1 :: x2 :: x3 :: x4 :: x5 :: x6 :: x7 :: x8 :: x9 :: x10 :: x11 :: (.own y) :: l := (rfl)
theorem lko12 {x0 x1 x2 x3 x4 x5 x6 x7 x8 x9 x10 x11 : Sl} {ds : List D} {l : En} : isLst (x0 :: x1 :: x2 :: x3 :: x4 :: x5 :: x6 :: x7 :: x8 :: x9 :: x10 :: x11 :: (.own (.lst ds)) :: l) 12 = true := (rfl)
theorem okm12 {x0 x1 x2 x3 x4 x5 x6 x7 x8 x9 x10 x11 : Sl} {x : MO} {l : En} : owS (x0 :: x1 :: x2 :: x3 :: x4 :: x5 :: x6 :: x7 :: x8 :: x9 :: x10 :: x11 :: (.mu x) :: l) 12 = some x := (rfl)
theorem pkm12 {x0 x1 x2 x3 x4 x5 x6 x7 x8 x9 x10 x11 : Sl} {x y : MO} {l : En} : putM (x0 :: x1 :: x2 :: x3 :: x4 :: x5 :: x6 :: x7 :: x8 :: x9 :: x10 :: x11 :: (.mu x) :: l) 12 y = x0 :: x1 :: x2 :: x3 :: x4 :: x5 :: x6 :: x7 :: x8 :: x9 :: x10 :: x11 :: (.mu y) :: l := (rfl)
theorem lkm12 {x0 x1 x2 x3 x4 x5 x6 x7 x8 x9 x10 x11 : Sl} {ds : List D} {l : En} : isLst (x0 :: x1 :: x2 :: x3 :: x4 :: x5 :: x6 :: x7 :: x8 :: x9 :: x10 :: x11 :: (.mu (.lst ds)) :: l) 12 = true := (rfl)
theorem gk13 {α : Type} {x0 x1 x2 x3 x4 x5 x6 x7 x8 x9 x10 x11 x12 x13 : α} {l : List α} : (x0 :: x1 :: x2 :: x3 :: x4 :: x5 :: x6 :: x7 :: x8 :: x9 :: x10 :: x11 :: x12 :: x13 :: l)[13]? = some x13 := (rfl)
theorem sk13 {α : Type} {x0 x1 x2 x3 x4 x5 x6 x7 x8 x9 x10 x11 x12 x13 y : α} {l : List α} : (x0 :: x1 :: x2 :: x3 :: x4 :: x5 :: x6 :: x7 :: x8 :: x9 :: x10 :: x11 :: x12 :: x13 :: l).set 13 y = x0 :: x1 :: x2 :: x3 :: x4 :: x5 :: x6 :: x7 :: x8 :: x9 :: x10 :: x11 :: x12 :: y :: l := (rfl)
theorem rkd13 {x0 x1 x2 x3 x4 x5 x6 x7 x8 x9 x10 x11 x12 : Sl} {x : D} {l : En} : rdS (x0 :: x1 :: x2 :: x3 :: x4 :: x5 :: x6 :: x7 :: x8 :: x9 :: x10 :: x11 :: x12 :: (.dat x) :: l) 13 = some x := (rfl)
theorem rko13 {x0 x1 x2 x3 x4 x5 x6 x7 x8 x9 x10 x11 x12 : Sl} {x : MO} {l : En} : rdS (x0 :: x1 :: x2 :: x3 :: x4 :: x5 :: x6 :: x7 :: x8 :: x9 :: x10 :: x11 :: x12 :: (.own x) :: l) 13 = some x.toD := (rfl)
theorem rkm13 {x0 x1 x2 x3 x4 x5 x6 x7 x8 x9 x10 x11 x12 : Sl} {x : MO} {l : En} : rdS (x0 :: x1 :: x2 :: x3 :: x4 :: x5 :: x6 :: x7 :: x8 :: x9 :: x10 :: x11 :: x12 :: (.mu x) :: l) 13 = some x.toD := (rfl)
theorem oko13 {x0 x1 x2 x3 x4 x5 x6 x7 x8 x9 x10 x11 x12 : Sl} {x : MO} {l : En} : owS (x0 :: x1 :: x2 :: x3 :: x4 :: x5 :: x6 :: x7 :: x8 :: x9 :: x10 :: x11 :: x12 :: (.own x) :: l) 13 = some x := (rfl)
theorem pko13 {x0 x1 x2 x3 x4 x5 x6 x7 x8 x9 x10 x11 x12 : Sl} {x y : MO} {l : En} : putM (x0 :: x1 :: x2 :: x3 :: x4 :: x5 :: x6 :: x7 :: x8 :: x9 :: x10 :: x11 :: x12 :: (.own x) :: l) 13 y = x0 :: x1 :: x2 :: x3 :: x4 :: x5 :: x6 :: x7 :: x8 :: x9 :: x10 :: x11 :: x12 :: (.own y) :: l := (rfl)
theorem lko13 {x0 x1 x2 x3 x4 x5 x6 x7 x8 x9 x10 x11 x12 : Sl} {ds : List D} {l : En} : isLst (x0 :: x1 :: x2 :: x3 :: x4 :: x5 :: x6 :: x7 :: x8 :: x9 :: x10 :: x11 :: x12 :: (.own (.lst ds)) :: l) 13 = true := (rfl)
theorem okm13 {x0 x1 x2 x3 x4 x5 x6 x7 x8 x9 x10 x11 x12 : Sl} {x : MO} {l : En} : owS (x0 :: x1 :: x2 :: x3 :: x4 :: x5 :: x6 :: x7 :: x8 :: x9 :: x10 :: x11 :: x12 :: (.mu x) :: l) 13 = some x := (rfl)
theorem pkm13 {x0 x1 x2 x3 x4 x5 x6 x7 x8 x9 x10 x11 x12 : Sl} {x y : MO} {l : En} : putM (x0 :: x1 :: x2 :: x3 :: x4 :: x5 :: x6 :: x7 :: x8 :: x9 :: x10 :: x11 :: x12 :: (.mu x) :: l) 13 y = x0 :: x1 :: x2 :: x3 :: x4 :: x5 :: x6 :: x7 :: x8 :: x9 :: x10 :: x11 :: x12 :: (.mu y) :: l := (rfl)
theorem lkm13 {x0 x1 x2 x3 x4 x5 x6 x7 x8 x9 x10 x11 x12 : Sl} {ds : List D} {l : En} : isLst (x0 :: x1 :: x2 :: x3 :: x4 :: x5 :: x6 :: x7 :: x8 :: x9 :: x10 :: x11 :: x12 :: (.mu (.lst ds)) :: l) 13 = true := (rfl)
theorem cMo0 {F : FN} {fs : List (M D)} {m : MO} {l : En} : wpM XF (vCallM F 0 fs) ((.own m) :: l) Q = wpM XF (evd fs) ((.own m) :: l) fun ds ρ' => oQ (owS ρ' 0) fun m => sp XF F (.mu m :: ds.map .dat) fun d as => muQ as fun m' => Q d (putM ρ' 0 m') := wq_callM rfl
theorem aPo0 {f : M D} {es : List D} {l : En} : wpB X (vApp 0 f) ((.own (.lst es)) :: l) N R = wpM X f ((.own (.lst es)) :: l) fun d ρ1 => appQ (owS ρ1 0) fun ds => N (putM ρ1 0 (.lst (ds ++ [d]))) := wq_app rfl
theorem cMo1 {F : FN} {fs : List (M D)} {x0 : Sl} {m : MO} {l : En} : wpM XF (vCallM F 1 fs) (x0 :: (.own m) :: l) Q = wpM XF (evd fs) (x0 :: (.own m) :: l) fun ds ρ' => oQ (owS ρ' 1) fun m => sp XF F (.mu m :: ds.map .dat) fun d as => muQ as fun m' => Q d (putM ρ' 1 m') := wq_callM rfl
theorem aPo1 {f : M D} {x0 : Sl} {es : List D} {l : En} : wpB X (vApp 1 f) (x0 :: (.own (.lst es)) :: l) N R = wpM X f (x0 :: (.own (.lst es)) :: l) fun d ρ1 => appQ (owS ρ1 1) fun ds => N (putM ρ1 1 (.lst (ds ++ [d]))) := wq_app rfl
theorem cMo2 {F : FN} {fs : List (M D)} {x0 x1 : Sl} {m : MO} {l : En} : wpM XF (vCallM F 2 fs) (x0 :: x1 :: (.own m) :: l) Q = wpM XF (evd fs) (x0 :: x1 :: (.own m) :: l) fun ds ρ' => oQ (owS ρ' 2) fun m => sp XF F (.mu m :: ds.map .dat) fun d as => muQ as fun m' => Q d (putM ρ' 2 m') := wq_callM rfl
theorem aPo2 {f : M D} {x0 x1 : Sl} {es : List D} {l : En} : wpB X (vApp 2 f) (x0 :: x1 :: (.own (.lst es)) :: l) N R = wpM X f (x0 :: x1 :: (.own (.lst es)) :: l) fun d ρ1 => appQ (owS ρ1 2) fun ds => N (putM ρ1 2 (.lst (ds ++ [d]))) := wq_app rfl
theorem cMo3 {F : FN} {fs : List (M D)} {x0 x1 x2 : Sl} {m : MO} {l : En} : wpM XF (vCallM F 3 fs) (x0 :: x1 :: x2 :: (.own m) :: l) Q = wpM XF (evd fs) (x0 :: x1 :: x2 :: (.own m) :: l) fun ds ρ' => oQ (owS ρ' 3) fun m => sp XF F (.mu m :: ds.map .dat) fun d as => muQ as fun m' => Q d (putM ρ' 3 m') := wq_callM rfl
theorem aPo3 {f : M D} {x0 x1 x2 : Sl} {es : List D} {l : En} : wpB X (vApp 3 f) (x0 :: x1 :: x2 :: (.own (.lst es)) :: l) N R = wpM X f (x0 :: x1 :: x2 :: (.own (.lst es)) :: l) fun d ρ1 => appQ (owS ρ1 3) fun ds => N (putM ρ1 3 (.lst (ds ++ [d]))) := wq_app rfl
theorem cMo4 {F : FN} {fs : List (M D)} {x0 x1 x2 x3 : Sl} {m : MO} {l : En} : wpM XF (vCallM F 4 fs) (x0 :: x1 :: x2 :: x3 :: (.own m) :: l) Q = wpM XF (evd fs) (x0 :: x1 :: x2 :: x3 :: (.own m) :: l) fun ds ρ' => oQ (owS ρ' 4) fun m => sp XF F (.mu m :: ds.map .dat) fun d as => muQ as fun m' => Q d (putM ρ' 4 m') := wq_callM rfl
theorem aPo4 {f : M D} {x0 x1 x2 x3 : Sl} {es : List D} {l : En} : wpB X (vApp 4 f) (x0 :: x1 :: x2 :: x3 :: (.own (.lst es)) :: l) N R = wpM X f (x0 :: x1 :: x2 :: x3 :: (.own (.lst es)) :: l) fun d ρ1 => appQ (owS ρ1 4) fun ds => N (putM ρ1 4 (.lst (ds ++ [d]))) := wq_app rfl
theorem cMo5 {F : FN} {fs : List (M D)} {x0 x1 x2 x3 x4 : Sl} {m : MO} {l : En} : wpM XF (vCallM F 5 fs) (x0 :: x1 :: x2 :: x3 :: x4 :: (.own m) :: l) Q = wpM XF (evd fs) (x0 :: x1 :: x2 :: x3 :: x4 :: (.own m) :: l) fun ds ρ' => oQ (owS ρ' 5) fun m => sp XF F (.mu m :: ds.map .dat) fun d as => muQ as fun m' => Q d (putM ρ' 5 m') := wq_callM rfl
theorem aPo5 {f : M D} {x0 x1 x2 x3 x4 : Sl} {es : List D} {l : En} : wpB X (vApp 5 f) (x0 :: x1 :: x2 :: x3 :: x4 :: (.own (.lst es)) :: l) N R = wpM X f (x0 :: x1 :: x2 :: x3 :: x4 :: (.own (.lst es)) :: l) fun d ρ1 => appQ (owS ρ1 5) fun ds => N (putM ρ1 5 (.lst (ds ++ [d]))) := wq_app rfl
theorem cMo6 {F : FN} {fs : List (M D)} {x0 x1 x2 x3 x4 x5 : Sl} {m : MO} {l : En} : wpM XF (vCallM F 6 fs) (x0 :: x1 :: x2 :: x3 :: x4 :: x5 :: (.own m) :: l) Q = wpM XF (evd fs) (x0 :: x1 :: x2 :: x3 :: x4 :: x5 :: (.own m) :: l) fun ds ρ' => oQ (owS ρ' 6) fun m => sp XF F (.mu m :: ds.map .dat) fun d as => muQ as fun m' => Q d (putM ρ' 6 m') := wq_callM rfl
theorem aPo6 {f : M D} {x0 x1 x2 x3 x4 x5 : Sl} {es : List D} {l : En} : wpB X (vApp 6 f) (x0 :: x1 :: x2 :: x3 :: x4 :: x5 :: (.own (.lst es)) :: l) N R = wpM X f (x0 :: x1 :: x2 :: x3 :: x4 :: x5 :: (.own (.lst es)) :: l) fun d ρ1 => appQ (owS ρ1 6) fun ds => N (putM ρ1 6 (.lst (ds ++ [d]))) := wq_app rfl
theorem cMo7 {F : FN} {fs : List (M D)} {x0 x1 x2 x3 x4 x5 x6 : Sl} {m : MO} {l : En} : wpM XF (vCallM F 7 fs) (x0 :: x1 :: x2 :: x3 :: x4 :: x5 :: x6 :: (.own m) :: l) Q = wpM XF (evd fs) (x0 :: x1 :: x2 :: x3 :: x4 :: x5 :: x6 :: (.own m) :: l) fun ds ρ' => oQ (owS ρ' 7) fun m => sp XF F (.mu m :: ds.map .dat) fun d as => muQ as fun m' => Q d (putM ρ' 7 m') := wq_callM rfl
theorem aPo7 {f : M D} {x0 x1 x2 x3 x4 x5 x6 : Sl} {es : List D} {l : En} : wpB X (vApp 7 f) (x0 :: x1 :: x2 :: x3 :: x4 :: x5 :: x6 :: (.own (.lst es)) :: l) N R = wpM X f (x0 :: x1 :: x2 :: x3 :: x4 :: x5 :: x6 :: (.own (.lst es)) :: l) fun d ρ1 => appQ (owS ρ1 7) fun ds => N (putM ρ1 7 (.lst (ds ++ [d]))) := wq_app rfl
theorem cMo8 {F : FN} {fs : List (M D)} {x0 x1 x2 x3 x4 x5 x6 x7 : Sl} {m : MO} {l : En} : wpM XF (vCallM F 8 fs) (x0 :: x1 :: x2 :: x3 :: x4 :: x5 :: x6 :: x7 :: (.own m) :: l) Q = wpM XF (evd fs) (x0 :: x1 :: x2 :: x3 :: x4 :: x5 :: x6 :: x7 :: (.own m) :: l) fun ds ρ' => oQ (owS ρ' 8) fun m => sp XF F (.mu m :: ds.map .dat) fun d as => muQ as fun m' => Q d (putM ρ' 8 m') := wq_callM rfl
theorem aPo8 {f : M D} {x0 x1 x2 x3 x4 x5 x6 x7 : Sl} {es : List D} {l : En} : wpB X (vApp 8 f) (x0 :: x1 :: x2 :: x3 :: x4 :: x5 :: x6 :: x7 :: (.own (.lst es)) :: l) N R = wpM X f (x0 :: x1 :: x2 :: x3 :: x4 :: x5 :: x6 :: x7 :: (.own (.lst es)) :: l) fun d ρ1 => appQ (owS ρ1 8) fun ds => N (putM ρ1 8 (.lst (ds ++ [d]))) := wq_app rfl
theorem cMo9 {F : FN} {fs : List (M D)} {x0 x1 x2 x3 x4 x5 x6 x7 x8 : Sl} {m : MO} {l : En} : wpM XF (vCallM F 9 fs) (x0 :: x1 :: x2 :: x3 :: x4 :: x5 :: x6 :: x7 :: x8 :: (.own m) :: l) Q = wpM XF (evd fs) (x0 :: x1 :: x2 :: x3 :: x4 :: x5 :: x6 :: x7 :: x8 :: (.own m) :: l) fun ds ρ' => oQ (owS ρ' 9) fun m => sp XF F (.mu m :: ds.map .dat) fun d as => muQ as fun m' => Q d (putM ρ' 9 m') := wq_callM rfl
theorem aPo9 {f : M D} {x0 x1 x2 x3 x4 x5 x6 x7 x8 : Sl} {es : List D} {l : En} : wpB X (vApp 9 f) (x0 :: x1 :: x2 :: x3 :: x4 :: x5 :: x6 :: x7 :: x8 :: (.own (.lst es)) :: l) N R = wpM X f (x0 :: x1 :: x2 :: x3 :: x4 :: x5 :: x6 :: x7 :: x8 :: (.own (.lst es)) :: l) fun d ρ1 => appQ (owS ρ1 9) fun ds => N (putM ρ1 9 (.lst (ds ++ [d]))) := wq_app rfl
theorem cMo10 {F : FN} {fs : List (M D)} {x0 x1 x2 x3 x4 x5 x6 x7 x8 x9 : Sl} {m : MO} {l : En} : wpM XF (vCallM F 10 fs) (x0 :: x1 :: x2 :: x3 :: x4 :: x5 :: x6 :: x7 :: x8 :: x9 :: (.own m) :: l) Q = wpM XF (evd fs) (x0 :: x1 :: x2 :: x3 :: x4 :: x5 :: x6 :: x7 :: x8 :: x9 :: (.own m) :: l) fun ds ρ' => oQ (owS ρ' 10) fun m => sp XF F (.mu m :: ds.map .dat) fun d as => muQ as fun m' => Q d (putM ρ' 10 m') := wq_callM rfl
theorem aPo10 {f : M D} {x0 x1 x2 x3 x4 x5 x6 x7 x8 x9 : Sl} {es : List D} {l : En} : wpB X (vApp 10 f) (x0 :: x1 :: x2 :: x3 :: x4 :: x5 :: x6 :: x7 :: x8 :: x9 :: (.own (.lst es)) :: l) N R = wpM X f (x0 :: x1 :: x2 :: x3 :: x4 :: x5 :: x6 :: x7 :: x8 :: x9 :: (.own (.lst es)) :: l) fun d ρ1 => appQ (owS ρ1 10) fun ds => N (putM ρ1 10 (.lst (ds ++ [d]))) := wq_app rfl
theorem cMo11 {F : FN} {fs : List (M D)} {x0 x1 x2 x3 x4 x5 x6 x7 x8 x9 x10 : Sl} {m : MO} {l : En} : wpM XF (vCallM F 11 fs) (x0 :: x1 :: x2 :: x3 :: x4 :: x5 :: x6 :: x7 :: x8 :: x9 :: x10 :: (.own m) :: l) Q = wpM XF (evd fs) (x0 :: x1 :: x2 :: x3 :: x4 :: x5 :: x6 :: x7 :: x8 :: x9 :: x10 :: (.own m) :: l) fun ds ρ' => oQ (owS ρ' 11) fun m => sp XF F (.mu m :: ds.map .dat) fun d as => muQ as fun m' => Q d (putM ρ' 11 m') := wq_callM rfl
theorem aPo11 {f : M D} {x0 x1 x2 x3 x4 x5 x6 x7 x8 x9 x10 : Sl} {es : List D} {l : En} : wpB X (vApp 11 f) (x0 :: x1 :: x2 :: x3 :: x4 :: x5 :: x6 :: x7 :: x8 :: x9 :: x10 :: (.own (.lst es)) :: l) N R = wpM X f (x0 :: x1 :: x2 :: x3 :: x4 :: x5 :: x6 :: x7 :: x8 :: x9 :: x10 :: (.own (.lst es)) :: l) fun d ρ1 => appQ (owS ρ1 11) fun ds => N (putM ρ1 11 (.lst (ds ++ [d]))) := wq_app rfl
theorem cMo12 {F : FN} {fs : List (M D)} {x0 x1 x2 x3 x4 x5 x6 x7 x8 x9 x10 x11 : Sl} {m : MO} {l : En} : wpM XF (vCallM F 12 fs) (x0 :: x1 :: x2 :: x3 :: x4 :: x5 :: x6 :: x7 :: x8 :: x9 :: x10 :: x11 :: (.own m) :: l) Q = wpM XF (evd fs) (x0 :: x1 :: x2 :: x3 :: x4 :: x5 :: x6 :: x7 :: x8 :: x9 :: x10 :: x11 :: (.own m) :: l) fun ds ρ' => oQ (owS ρ' 12) fun m => sp XF F (.mu m :: ds.map .dat) fun d as => muQ as fun m' => Q d (putM ρ' 12 m') := wq_callM rfl
theorem aPo12 {f : M D} {x0 x1 x2 x3 x4 x5 x6 x7 x8 x9 x10 x11 : Sl} {es : List D} {l : En} : wpB X (vApp 12 f) (x0 :: x1 :: x2 :: x3 :: x4 :: x5 :: x6 :: x7 :: x8 :: x9 :: x10 :: x11 :: (.own (.lst es)) :: l) N R = wpM X f (x0 :: x1 :: x2 :: x3 :: x4 :: x5 :: x6 :: x7 :: x8 :: x9 :: x10 :: x11 :: (.own (.lst es)) :: l) fun d ρ1 => appQ (owS ρ1 12) fun ds => N (putM ρ1 12 (.lst (ds ++ [d]))) := wq_app rfl
theorem cMo13 {F : FN} {fs : List (M D)} {x0 x1 x2 x3 x4 x5 x6 x7 x8 x9 x10 x11 x12 : Sl} {m : MO} {l : En} : wpM XF (vCallM F 13 fs) (x0 :: x1 :: x2 :: x3 :: x4 :: x5 :: x6 :: x7 :: x8 :: x9 :: x10 :: x11 :: x12 :: (.own m) :: l) Q = wpM XF (evd fs) (x0 :: x1 :: x2 :: x3 :: x4 :: x5 :: x6 :: x7 :: x8 :: x9 :: x10 :: x11 :: x12 :: (.own m) :: l) fun ds ρ' => oQ (owS ρ' 13) fun m => sp XF F (.mu m :: ds.map .dat) fun d as => muQ as fun m' => Q d (putM ρ' 13 m') := wq_callM rfl
theorem aPo13 {f : M D} {x0 x1 x2 x3 x4 x5 x6 x7 x8 x9 x10 x11 x12 : Sl} {es : List D} {l : En} : wpB X (vApp 13 f) (x0 :: x1 :: x2 :: x3 :: x4 :: x5 :: x6 :: x7 :: x8 :: x9 :: x10 :: x11 :: x12 :: (.own (.lst es)) :: l) N R = wpM X f (x0 :: x1 :: x2 :: x3 :: x4 :: x5 :: x6 :: x7 :: x8 :: x9 :: x10 :: x11 :: x12 :: (.own (.lst es)) :: l) fun d ρ1 => appQ (owS ρ1 13) fun ds => N (putM ρ1 13 (.lst (ds ++ [d]))) := wq_app rfl
theorem cMm0 {F : FN} {fs : List (M D)} {m : MO} {l : En} : wpM XF (vCallM F 0 fs) ((.mu m) :: l) Q = wpM XF (evd fs) ((.mu m) :: l) fun ds ρ' => oQ (owS ρ' 0) fun m => sp XF F (.mu m :: ds.map .dat) fun d as => muQ as fun m' => Q d (putM ρ' 0 m') := wq_callM rfl
theorem aPm0 {f : M D} {es : List D} {l : En} : wpB X (vApp 0 f) ((.mu (.lst es)) :: l) N R = wpM X f ((.mu (.lst es)) :: l) fun d ρ1 => appQ (owS ρ1 0) fun ds => N (putM ρ1 0 (.lst (ds ++ [d]))) := wq_app rfl
theorem cMm1 {F : FN} {fs : List (M D)} {x0 : Sl} {m : MO} {l : En} : wpM XF (vCallM F 1 fs) (x0 :: (.mu m) :: l) Q = wpM XF (evd fs) (x0 :: (.mu m) :: l) fun ds ρ' => oQ (owS ρ' 1) fun m => sp XF F (.mu m :: ds.map .dat) fun d as => muQ as fun m' => Q d (putM ρ' 1 m') := wq_callM rfl
theorem aPm1 {f : M D} {x0 : Sl} {es : List D} {l : En} : wpB X (vApp 1 f) (x0 :: (.mu (.lst es)) :: l) N R = wpM X f (x0 :: (.mu (.lst es)) :: l) fun d ρ1 => appQ (owS ρ1 1) fun ds => N (putM ρ1 1 (.lst (ds ++ [d]))) := wq_app rfl
theorem cMm2 {F : FN} {fs : List (M D)} {x0 x1 : Sl} {m : MO} {l : En} : wpM XF (vCallM F 2 fs) (x0 :: x1 :: (.mu m) :: l) Q = wpM XF (evd fs) (x0 :: x1 :: (.mu m) :: l) fun ds ρ' => oQ (owS ρ' 2) fun m => sp XF F (.mu m :: ds.map .dat) fun d as => muQ as fun m' => Q d (putM ρ' 2 m') := wq_callM rfl
theorem aPm2 {f : M D} {x0 x1 : Sl} {es : List D} {l : En} : wpB X (vApp 2 f) (x0 :: x1 :: (.mu (.lst es)) :: l) N R = wpM X f (x0 :: x1 :: (.mu (.lst es)) :: l) fun d ρ1 => appQ (owS ρ1 2) fun ds => N (putM ρ1 2 (.lst (ds ++ [d]))) := wq_app rfl
theorem cMm3 {F : FN} {fs : List (M D)} {x0 x1 x2 : Sl} {m : MO} {l : En} : wpM XF (vCallM F 3 fs) (x0 :: x1 :: x2 :: (.mu m) :: l) Q = wpM XF (evd fs) (x0 :: x1 :: x2 :: (.mu m) :: l) fun ds ρ' => oQ (owS ρ' 3) fun m => sp XF F (.mu m :: ds.map .dat) fun d as => muQ as fun m' => Q d (putM ρ' 3 m') := wq_callM rfl
theorem aPm3 {f : M D} {x0 x1 x2 : Sl} {es : List D} {l : En} : wpB X (vApp 3 f) (x0 :: x1 :: x2 :: (.mu (.lst es)) :: l) N R = wpM X f (x0 :: x1 :: x2 :: (.mu (.lst es)) :: l) fun d ρ1 => appQ (owS ρ1 3) fun ds => N (putM ρ1 3 (.lst (ds ++ [d]))) := wq_app rfl
theorem cMm4 {F : FN} {fs : List (M D)} {x0 x1 x2 x3 : Sl} {m : MO} {l : En} : wpM XF (vCallM F 4 fs) (x0 :: x1 :: x2 :: x3 :: (.mu m) :: l) Q = wpM XF (evd fs) (x0 :: x1 :: x2 :: x3 :: (.mu m) :: l) fun ds ρ' => oQ (owS ρ' 4) fun m => sp XF F (.mu m :: ds.map .dat) fun d as => muQ as fun m' => Q d (putM ρ' 4 m') := wq_callM rfl
theorem aPm4 {f : M D} {x0 x1 x2 x3 : Sl} {es : List D} {l : En} : wpB X (vApp 4 f) (x0 :: x1 :: x2 :: x3 :: (.mu (.lst es)) :: l) N R = wpM X f (x0 :: x1 :: x2 :: x3 :: (.mu (.lst es)) :: l) fun d ρ1 => appQ (owS ρ1 4) fun ds => N (putM ρ1 4 (.lst (ds ++ [d]))) := wq_app rfl
theorem cMm5 {F : FN} {fs : List (M D)} {x0 x1 x2 x3 x4 : Sl} {m : MO} {l : En} : wpM XF (vCallM F 5 fs) (x0 :: x1 :: x2 :: x3 :: x4 :: (.mu m) :: l) Q = wpM XF (evd fs) (x0 :: x1 :: x2 :: x3 :: x4 :: (.mu m) :: l) fun ds ρ' => oQ (owS ρ' 5) fun m => sp XF F (.mu m :: ds.map .dat) fun d as => muQ as fun m' => Q d (putM ρ' 5 m') := wq_callM rfl
theorem aPm5 {f : M D} {x0 x1 x2 x3 x4 : Sl} {es : List D} {l : En} : wpB X (vApp 5 f) (x0 :: x1 :: x2 :: x3 :: x4 :: (.mu (.lst es)) :: l) N R = wpM X f (x0 :: x1 :: x2 :: x3 :: x4 :: (.mu (.lst es)) :: l) fun d ρ1 => appQ (owS ρ1 5) fun ds => N (putM ρ1 5 (.lst (ds ++ [d]))) := wq_app rfl
theorem cMm6 {F : FN} {fs : List (M D)} {x0 x1 x2 x3 x4 x5 : Sl} {m : MO} {l : En} : wpM XF (vCallM F 6 fs) (x0 :: x1 :: x2 :: x3 :: x4 :: x5 :: (.mu m) :: l) Q = wpM XF (evd fs) (x0 :: x1 :: x2 :: x3 :: x4 :: x5 :: (.mu m) :: l) fun ds ρ' => oQ (owS ρ' 6) fun m => sp XF F (.mu m :: ds.map .dat) fun d as => muQ as fun m' => Q d (putM ρ' 6 m') := wq_callM rfl
theorem aPm6 {f : M D} {x0 x1 x2 x3 x4 x5 : Sl} {es : List D} {l : En} : wpB X (vApp 6 f) (x0 :: x1 :: x2 :: x3 :: x4 :: x5 :: (.mu (.lst es)) :: l) N R = wpM X f (x0 :: x1 :: x2 :: x3 :: x4 :: x5 :: (.mu (.lst es)) :: l) fun d ρ1 => appQ (owS ρ1 6) fun ds => N (putM ρ1 6 (.lst (ds ++ [d]))) := wq_app rfl
theorem cMm7 {F : FN} {fs : List (M D)} {x0 x1 x2 x3 x4 x5 x6 : Sl} {m : MO} {l : En} : wpM XF (vCallM F 7 fs) (x0 :: x1 :: x2 :: x3 :: x4 :: x5 :: x6 :: (.mu m) :: l) Q = wpM XF (evd fs) (x0 :: x1 :: x2 :: x3 :: x4 :: x5 :: x6 :: (.mu m) :: l) fun ds ρ' => oQ (owS ρ' 7) fun m => sp XF F (.mu m :: ds.map .dat) fun d as => muQ as fun m' => Q d (putM ρ' 7 m') := wq_callM rfl
theorem aPm7 {f : M D} {x0 x1 x2 x3 x4 x5 x6 : Sl} {es : List D} {l : En} : wpB X (vApp 7 f) (x0 :: x1 :: x2 :: x3 :: x4 :: x5 :: x6 :: (.mu (.lst es)) :: l) N R = wpM X f (x0 :: x1 :: x2 :: x3 :: x4 :: x5 :: x6 :: (.mu (.lst es)) :: l) fun d ρ1 => appQ (owS ρ1 7) fun ds => N (putM ρ1 7 (.lst (ds ++ [d]))) := wq_app rfl
theorem cMm8 {F : FN} {fs : List (M D)} {x0 x1 x2 x3 x4 x5 x6 x7 : Sl} {m : MO} {l : En} : wpM XF (vCallM F 8 fs) (x0 :: x1 :: x2 :: x3 :: x4 :: x5 :: x6 :: x7 :: (.mu m) :: l) Q = wpM XF (evd fs) (x0 :: x1 :: x2 :: x3 :: x4 :: x5 :: x6 :: x7 :: (.mu m) :: l) fun ds ρ' => oQ (owS ρ' 8) fun m => sp XF F (.mu m :: ds.map .dat) fun d as => muQ as fun m' => Q d (putM ρ' 8 m') := wq_callM rfl
theorem aPm8 {f : M D} {x0 x1 x2 x3 x4 x5 x6 x7 : Sl} {es : List D} {l : En} : wpB X (vApp 8 f) (x0 :: x1 :: x2 :: x3 :: x4 :: x5 :: x6 :: x7 :: (.mu (.lst es)) :: l) N R = wpM X f (x0 :: x1 :: x2 :: x3 :: x4 :: x5 :: x6 :: x7 :: (.mu (.lst es)) :: l) fun d ρ1 => appQ (owS ρ1 8) fun ds => N (putM ρ1 8 (.lst (ds ++ [d]))) := wq_app rfl
theorem cMm9 {F : FN} {fs : List (M D)} {x0 x1 x2 x3 x4 x5 x6 x7 x8 : Sl} {m : MO} {l : En} : wpM XF (vCallM F 9 fs) (x0 :: x1 :: x2 :: x3 :: x4 :: x5 :: x6 :: x7 :: x8 :: (.mu m) :: l) Q = wpM XF (evd fs) (x0 :: x1 :: x2 :: x3 :: x4 :: x5 :: x6 :: x7 :: x8 :: (.mu m) :: l) fun ds ρ' => oQ (owS ρ' 9) fun m => sp XF F (.mu m :: ds.map .dat) fun d as => muQ as fun m' => Q d (putM ρ' 9 m') := wq_callM rfl
theorem aPm9 {f : M D} {x0 x1 x2 x3 x4 x5 x6 x7 x8 : Sl} {es : List D} {l : En} : wpB X (vApp 9 f) (x0 :: x1 :: x2 :: x3 :: x4 :: x5 :: x6 :: x7 :: x8 :: (.mu (.lst es)) :: l) N R = wpM X f (x0 :: x1 :: x2 :: x3 :: x4 :: x5 :: x6 :: x7 :: x8 :: (.mu (.lst es)) :: l) fun d ρ1 => appQ (owS ρ1 9) fun ds => N (putM ρ1 9 (.lst (ds ++ [d]))) := wq_app rfl
theorem cMm10 {F : FN} {fs : List (M D)} {x0 x1 x2 x3 x4 x5 x6 x7 x8 x9 : Sl} {m : MO} {l : En} : wpM XF (vCallM F 10 fs) (x0 :: x1 :: x2 :: x3 :: x4 :: x5 :: x6 :: x7 :: x8 :: x9 :: (.mu m) :: l) Q = wpM XF (evd fs) (x0 :: x1 :: x2 :: x3 :: x4 :: x5 :: x6 :: x7 :: x8 :: x9 :: (.mu m) :: l) fun ds ρ' => oQ (owS ρ' 10) fun m => sp XF F (.mu m :: ds.map .dat) fun d as => muQ as fun m' => Q d (putM ρ' 10 m') := wq_callM rfl
theorem aPm10 {f : M D} {x0 x1 x2 x3 x4 x5 x6 x7 x8 x9 : Sl} {es : List D} {l : En} : wpB X (vApp 10 f) (x0 :: x1 :: x2 :: x3 :: x4 :: x5 :: x6 :: x7 :: x8 :: x9 :: (.mu (.lst es)) :: l) N R = wpM X f (x0 :: x1 :: x2 :: x3 :: x4 :: x5 :: x6 :: x7 :: x8 :: x9 :: (.mu (.lst es)) :: l) fun d ρ1 => appQ (owS ρ1 10) fun ds => N (putM ρ1 10 (.lst (ds ++ [d]))) := wq_app rfl
theorem cMm11 {F : FN} {fs : List (M D)} {x0 x1 x2 x3 x4 x5 x6 x7 x8 x9 x10 : Sl} {m : MO} {l : En} : wpM XF (vCallM F 11 fs) (x0 :: x1 :: x2 :: x3 :: x4 :: x5 :: x6 :: x7 :: x8 :: x9 :: x10 :: (.mu m) :: l) Q = wpM XF (evd fs) (x0 :: x1 :: x2 :: x3 :: x4 :: x5 :: x6 :: x7 :: x8 :: x9 :: x10 :: (.mu m) :: l) fun ds ρ' => oQ (owS ρ' 11) fun m => sp XF F (.mu m :: ds.map .dat) fun d as => muQ as fun m' => Q d (putM ρ' 11 m') := wq_callM rfl
theorem aPm11 {f : M D} {x0 x1 x2 x3 x4 x5 x6 x7 x8 x9 x10 : Sl} {es : List D} {l : En} : wpB X (vApp 11 f) (x0 :: x1 :: x2 :: x3 :: x4 :: x5 :: x6 :: x7 :: x8 :: x9 :: x10 :: (.mu (.lst es)) :: l) N R = wpM X f (x0 :: x1 :: x2 :: x3 :: x4 :: x5 :: x6 :: x7 :: x8 :: x9 :: x10 :: (.mu (.lst es)) :: l) fun d ρ1 => appQ (owS ρ1 11) fun ds => N (putM ρ1 11 (.lst (ds ++ [d]))) := wq_app rfl
theorem cMm12 {F : FN} {fs : List (M D)} {x0 x1 x2 x3 x4 x5 x6 x7 x8 x9 x10 x11 : Sl} {m : MO} {l : En} : wpM XF (vCallM F 12 fs) (x0 :: x1 :: x2 :: x3 :: x4 :: x5 :: x6 :: x7 :: x8 :: x9 :: x10 :: x11 :: (.mu m) :: l) Q = wpM XF (evd fs) (x0 :: x1 :: x2 :: x3 :: x4 :: x5 :: x6 :: x7 :: x8 :: x9 :: x10 :: x11 :: (.mu m) :: l) fun ds ρ' => oQ (owS ρ' 12) fun m => sp XF F (.mu m :: ds.map .dat) fun d as => muQ as fun m' => Q d (putM ρ' 12 m') := wq_callM rfl
theorem aPm12 {f : M D} {x0 x1 x2 x3 x4 x5 x6 x7 x8 x9 x10 x11 : Sl} {es : List D} {l : En} : wpB X (vApp 12 f) (x0 :: x1 :: x2 :: x3 :: x4 :: x5 :: x6 :: x7 :: x8 :: x9 :: x10 :: x11 :: (.mu (.lst es)) :: l) N R = wpM X f (x0 :: x1 :: x2 :: x3 :: x4 :: x5 :: x6 :: x7 :: x8 :: x9 :: x10 :: x11 :: (.mu (.lst es)) :: l) fun d ρ1 => appQ (owS ρ1 12) fun ds => N (putM ρ1 12 (.lst (ds ++ [d]))) := wq_app rfl
theorem cMm13 {F : FN} {fs : List (M D)} {x0 x1 x2 x3 x4 x5 x6 x7 x8 x9 x10 x11 x12 : Sl} {m : MO} {l : En} : wpM XF (vCallM F 13 fs) (x0 :: x1 :: x2 :: x3 :: x4 :: x5 :: x6 :: x7 :: x8 :: x9 :: x10 :: x11 :: x12 :: (.mu m) :: l) Q = wpM XF (evd fs) (x0 :: x1 :: x2 :: x3 :: x4 :: x5 :: x6 :: x7 :: x8 :: x9 :: x10 :: x11 :: x12 :: (.mu m) :: l) fun ds ρ' => oQ (owS ρ' 13) fun m => sp XF F (.mu m :: ds.map .dat) fun d as => muQ as fun m' => Q d (putM ρ' 13 m') := wq_callM rfl
theorem aPm13 {f : M D} {x0 x1 x2 x3 x4 x5 x6 x7 x8 x9 x10 x11 x12 : Sl} {es : List D} {l : En} : wpB X (vApp 13 f) (x0 :: x1 :: x2 :: x3 :: x4 :: x5 :: x6 :: x7 :: x8 :: x9 :: x10 :: x11 :: x12 :: (.mu (.lst es)) :: l) N R = wpM X f (x0 :: x1 :: x2 :: x3 :: x4 :: x5 :: x6 :: x7 :: x8 :: x9 :: x10 :: x11 :: x12 :: (.mu (.lst es)) :: l) fun d ρ1 => appQ (owS ρ1 13) fun ds => N (putM ρ1 13 (.lst (ds ++ [d]))) := wq_app rfl
end
end Vi

namespace Vi
open PySem PySem.Spec L2
section
variable {X : XP} {α β : Type} {ρ : En} {N : En → Prop} {R : D → En → Prop} {Q : D → En → Prop}
theorem wp_ite0 {c : Prop} [Decidable c] {p q : Prop} (h1 : c → p) (h2 : ¬ c → q) : if c then p else q := by
  split
  · exact h1 (by assumption)
  · exact h2 (by assumption)
def putF (i : Nat) (d : D) : D → M Unit := fun k ρ1 => match k, owS ρ1 i with
  | .int k, some (.lst ds) => (match ixN ds.length k with
    | some j => .ok () (putM ρ1 i (.lst (ds.set j d)))
    | none => .no)
  | _, _ => .no
theorem wq_putE {i : Nat} {fx : M D} {d : D} {Q : Unit → En → Prop} : wpM X (putE i fx d) ρ Q = (isLst ρ i = true ∧ wpM X fx ρ fun k ρ1 => putQ k (owS ρ1 i) fun ds j => Q () (putM ρ1 i (.lst (ds.set j d)))) := by
  by_cases h : isLst ρ i = true
  · rw [eq_true h, true_and]
    have e : wpM X (putE i fx d) ρ Q = wpM X (bind fx (putF i d)) ρ Q := by
      unfold wpM putE
      rw [if_pos h]
      rfl
    rw [e, wp_bind]
    congr 1
    funext k ρ1
    unfold wpM putF
    cases k with
    | int k =>
      cases owS ρ1 i with
      | none => rfl
      | some m =>
        cases m with
        | lst ds => dsimp only [putQ, oQ]; cases ixN ds.length k <;> rfl
        | _ => rfl
    | _ => rfl
  · unfold wpM putE
    rw [if_neg h, eq_false h, false_and]
def swQ (d : D) (P : D → D → Prop) : Prop := match d with
  | .tup [a, b] => P a b
  | _ => False
theorem swQ_t {a b : D} {P : D → D → Prop} : swQ (.tup [a, b]) P = P a b := (rfl)
theorem wq_swap {i j : Nat} {fx fy fv : M D} : wpB X (vSwap i j fx fy fv) ρ N R = wpM X fv ρ fun d ρ1 => swQ d fun a b => wpM X (putE i fx a) ρ1 fun _ ρ2 => wpM X (putE j fy b) ρ2 fun _ ρ3 => N ρ3 := by
  unfold vSwap
  rw [wb_sb]
  congr 1
  funext d ρ1
  cases d with
  | tup l =>
    rcases l with _ | ⟨a, _ | ⟨b, _ | ⟨c, r⟩⟩⟩
    · rfl
    · rfl
    · show wpB X (sb (putE i fx a) fun _ => sb (putE j fy b) fun _ => .nx) ρ1 N R = _
      rw [wb_sb]
      congr 1
      funext _ ρ2
      rw [wb_sb]
      rfl
    · rfl
  | _ => rfl
theorem sp_weak {F : FN} {args : En} {P : D → En → Prop} (h : sp XF F args P) : sp X F args P := by
  unfold sp at h ⊢
  cases e : F args with
  | ok d as => rw [e] at h; exact h
  | ex _ _ _ _ => rw [e] at h; exact h.elim
  | no => rw [e] at h; exact h
theorem wp_weak {f : M α} {Q : α → En → Prop} (h : wpM XF f ρ Q) : wpM X f ρ Q := by
  unfold wpM at h ⊢
  cases e : f ρ with
  | ok a ρ' => rw [e] at h; exact h
  | ex c ns ds r => rw [e] at h; exact h.elim
  | no => rw [e] at h; exact h
theorem isi_1 {cs : List Str} {T : Ty} {d : D} : isi1 cs T [d] = (isiB cs T d).map D.bl := (rfl)
theorem isiT_1 {cs : List Str} {Ts : List Ty} {d : D} : isiT cs Ts [d] = (anyB cs d Ts).map D.bl := (rfl)
def evQ {γ : Type} (o : Option γ) (P : γ → Prop) : Prop := match o with
  | some a => P a
  | none => False
def blQ (d : D) (P : Bool → Prop) : Prop := match d with
  | .bl b => P b
  | _ => False
theorem blQ_b {b : Bool} {P : Bool → Prop} : blQ (.bl b) P = P b := (rfl)
theorem wq_tb {f : M D} {Q : Bool → En → Prop} : wpM X (vTb f) ρ Q = wpM X f ρ fun d ρ' => blQ d fun b => Q b ρ' := by
  rw [wp_tb]
  congr 1
theorem blD_b {b : Bool} : blD (.bl b) = some b := (rfl)
theorem anyB0 {cs : List Str} {d : D} : anyB cs d [] = some false := (rfl)
def excQ (o : Option Sl) (P : Str → List Str → List D → Prop) : Prop := match o with
  | some (.exc c ns ds) => P c ns ds
  | _ => False
theorem wq_isE {f : Str → Option Bool} {i : Nat} {Q : D → En → Prop} : wpM X (vIsE f i) ρ Q = excQ ρ[i]? fun c _ _ => oQ (f c) fun b => Q (.bl b) ρ := by
  rw [wp_isE]
  unfold excQ
  cases ρ[i]? with
  | none => rfl
  | some s =>
    cases s with
    | exc c ns ds => dsimp only; cases h : f c <;> simp only [oQ, h]
    | _ => rfl
theorem wq_xf {cs : List Str} {f : Str} {i : Nat} {Q : D → En → Prop} : wpM X (vXf cs f i) ρ Q = excQ ρ[i]? fun c ns ds => c ∈ cs ∧ oQ (lkD f ns ds) fun d => Q d ρ := by
  rw [wp_xf]
  unfold excQ
  cases ρ[i]? with
  | none => rfl
  | some s =>
    cases s with
    | exc c ns ds => dsimp only; cases h : lkD f ns ds <;> simp only [oQ, h]
    | _ => rfl
theorem excQ_e {c : Str} {ns : List Str} {ds : List D} {P : Str → List Str → List D → Prop} : excQ (some (.exc c ns ds)) P = P c ns ds := (rfl)
theorem wq_count {f g : M D} {Q : D → En → Prop} : wpM X (vCount f g) ρ Q = wpM X f ρ fun y ρ' => isLD y = true ∧ wpM X g ρ' fun x ρ2 => oQ (countD y x) fun d => Q d ρ2 := by
  rw [wp_count]
  congr 1
  funext y ρ'
  congr 2
  funext x ρ2
  cases h : countD y x <;> simp only [oQ, h]
def zipQ (ds : List D) (P : List D → List D → Prop) : Prop := match ds with
  | [d, e] => oQ (seqD d) fun a => oQ (seqD e) fun b => P a b
  | _ => False
theorem zipQ2 {d e : D} {P : List D → List D → Prop} : zipQ [d, e] P = oQ (seqD d) fun a => oQ (seqD e) fun b => P a b := (rfl)
theorem wq_zip {fs : List (M D)} {Q : List D → En → Prop} : wpM X (itZip fs) ρ Q = wpM X (evd fs) ρ fun ds ρ' => zipQ ds fun a b => Q (zipD a b) ρ' := by
  rw [wp_zip]
  congr 1
  funext ds ρ'
  rcases ds with _ | ⟨d, _ | ⟨e, _ | ⟨g, r⟩⟩⟩ <;> try rfl
  dsimp only [zipQ]
  cases seqD d with
  | none => rfl
  | some a => cases seqD e <;> rfl
theorem wq_par {i j : Nat} {f g : M D} : wpB X (vPar i j f g) ρ N R = wpM X f ρ fun d ρ1 => wpM X g ρ1 fun e ρ2 => N ((ρ2.set i (.dat d)).set j (.dat e)) := by
  rw [wb_par, wp_evdC]
  congr 1
  funext d ρ1
  rw [wp_evdC]
  rfl
theorem wb_brk : wpB X vNo ρ N R = False := (rfl)
theorem is_non1 {d : D} : isNon d = (match d with | .non => true | _ => false) := by cases d <;> rfl
theorem at_g {xs : List D} {k : Nat} {x : D} (h : xs[k]? = some x) : atI xs (k : Int) = some x := by
  have hk : k < xs.length := by
    rcases Nat.lt_or_ge k xs.length with q | q
    · exact q
    · rw [List.getElem?_eq_none q] at h
      cases h
  rw [at_n (by omega) (by omega)]
  exact h
/-- a loop over a row of known things -/
theorem wb_forM {γ : Type} {tg : Tg} {body : VS} (f : γ → D) (xs : List γ) (I : Nat → En → Prop) {ρ : En} (h0 : I 0 ρ)
    (hs : ∀ i x ρ, xs[i]? = some x → I i ρ → oQ (asgT tg (f x) ρ) fun ρ1 => wpB X body ρ1 (I (i + 1)) R) (hd : ∀ ρ, I xs.length ρ → N ρ) : wpB X (forD tg body (xs.map f)) ρ N R := by
  refine wb_forI I (xs.map f) 0 ρ h0 (fun i d ρ hi hI => ?_) fun ρ hI => hd ρ ?_
  · rw [List.getElem?_map] at hi
    cases e : xs[i]? with
    | none => rw [e] at hi; cases hi
    | some x =>
      rw [e] at hi
      cases hi
      rw [Nat.zero_add] at hI ⊢
      have := hs i x ρ e hI
      cases q : asgT tg (f x) ρ with
      | none => rw [q] at this; exact this
      | some ρ1 => rw [q] at this; exact this
  · rw [Nat.zero_add, List.length_map] at hI
    exact hI
theorem wb_forL {tg : Tg} {body : VS} (xs : List D) (I : Nat → En → Prop) {ρ : En} (h0 : I 0 ρ)
    (hs : ∀ i x ρ, xs[i]? = some x → I i ρ → oQ (asgT tg x ρ) fun ρ1 => wpB X body ρ1 (I (i + 1)) R) (hd : ∀ ρ, I xs.length ρ → N ρ) : wpB X (forD tg body xs) ρ N R := by
  have := wb_forM (X := X) (N := N) (R := R) (tg := tg) (body := body) (fun d : D => d) xs I h0 hs hd
  rw [List.map_id'] at this
  exact this
theorem wb_forR {tg : Tg} {body : VS} (n : Nat) (I : Nat → En → Prop) {ρ : En} (h0 : I 0 ρ)
    (hs : ∀ (i : Nat) ρ, i < n → I i ρ → oQ (asgT tg (.int i) ρ) fun ρ1 => wpB X body ρ1 (I (i + 1)) R) (hd : ∀ ρ, I n ρ → N ρ) : wpB X (forD tg body (rngL 0 1 n)) ρ N R := by
  refine wb_forL (rngL 0 1 n) I h0 (fun i x ρ hi hI => ?_) fun ρ hI => hd ρ ?_
  · obtain ⟨rfl, hk⟩ := rng_get hi
    exact hs i ρ hk hI
  · have : (rngL 0 1 n).length = n := by simp [rngL]
    rw [this] at hI
    exact hI
end
theorem wp_compG {vs : List Nat} {tg : Tg} {elt : M D} {Q : List D → En → Prop} {γ : Type} (f : γ → D) (xs : List γ) (I : Nat → List D → En → Prop) {ρ : En} (h0 : I 0 [] ρ)
    (hs : ∀ i x pre ρ, xs[i]? = some x → I i pre ρ → oQ (asgT tg (f x) ρ) fun ρ1 => wpM XF elt ρ1 fun e ρ2 => I (i + 1) (pre ++ [e]) (wipeE ρ2 vs)) (hd : ∀ es ρ, I xs.length es ρ → Q es ρ) : wpM XF (compD tg (ret true) elt vs (xs.map f)) ρ Q := by
  refine wp_compI I (xs.map f) 0 [] ρ h0 (fun i d pre ρ hi hI => ?_) fun es ρ hI => hd es ρ ?_
  · rw [List.getElem?_map] at hi
    cases e : xs[i]? with
    | none => rw [e] at hi; cases hi
    | some x =>
      rw [e] at hi
      cases hi
      rw [Nat.zero_add] at hI ⊢
      have := hs i x pre ρ e hI
      cases q : asgT tg (f x) ρ with
      | none => rw [q] at this; exact this
      | some ρ1 => rw [q] at this; exact this
  · rw [Nat.zero_add, List.length_map, List.nil_append] at hI
    exact hI
theorem wp_compR {vs : List Nat} {tg : Tg} {elt : M D} {Q : List D → En → Prop} (n : Nat) (I : Nat → List D → En → Prop) {ρ : En} (h0 : I 0 [] ρ)
    (hs : ∀ (i : Nat) pre ρ, i < n → I i pre ρ → oQ (asgT tg (.int i) ρ) fun ρ1 => wpM XF elt ρ1 fun e ρ2 => I (i + 1) (pre ++ [e]) (wipeE ρ2 vs)) (hd : ∀ es ρ, I n es ρ → Q es ρ) : wpM XF (compD tg (ret true) elt vs (rngL 0 1 n)) ρ Q := by
  have e : rngL 0 1 n = (List.range n).map fun i : Nat => D.int i := by
    unfold rngL
    congr 1
    funext i
    simp
  rw [e]
  refine wp_compG _ (List.range n) I h0 (fun i x pre ρ hi hI => ?_) fun es ρ hI => hd es ρ (by rw [List.length_range] at hI; exact hI)
  rcases Nat.lt_or_ge i n with q | q
  · rw [List.getElem?_range q] at hi
    cases hi
    exact hs i pre ρ q hI
  · rw [List.getElem?_eq_none (by rw [List.length_range]; exact q)] at hi
    cases hi
inductive A2 {α β : Type} (R : α → β → Prop) : List α → List β → Prop
  | nil : A2 R [] []
  | cons {a : α} {b : β} {as : List α} {bs : List β} : R a b → A2 R as bs → A2 R (a :: as) (b :: bs)
section
variable {α β : Type} {R S : α → β → Prop}
theorem A2.len {as : List α} {bs : List β} (h : A2 R as bs) : as.length = bs.length := by
  induction h with
  | nil => rfl
  | cons _ _ ih => exact congrArg (· + 1) ih
theorem A2.app {as cs : List α} {bs ds : List β} (h : A2 R as bs) (g : A2 R cs ds) : A2 R (as ++ cs) (bs ++ ds) := by
  induction h with
  | nil => exact g
  | cons a _ ih => exact .cons a ih
theorem A2.one {a : α} {b : β} (h : R a b) : A2 R [a] [b] := .cons h .nil
theorem A2.imp {as : List α} {bs : List β} (h : A2 R as bs) (i : ∀ a b, R a b → S a b) : A2 S as bs := by
  induction h with
  | nil => exact .nil
  | cons a _ ih => exact .cons (i _ _ a) ih
end
end Vi

namespace Vi
open PySem PySem.Spec L2
section
variable {cs : List Str}
theorem tb_non_bl : isiB cs .bl .non = some false := (rfl)
theorem tb_non_int : isiB cs .int .non = some false := (rfl)
theorem tb_non_str : isiB cs .str .non = some false := (rfl)
theorem tb_non_lst : isiB cs .lst .non = some false := (rfl)
theorem tb_non_tup : isiB cs .tup .non = some false := (rfl)
theorem tb_non_dic : isiB cs .dic .non = some false := (rfl)
theorem tb_bl_bl {b : Bool} : isiB cs .bl (.bl b) = some true := (rfl)
theorem tb_bl_int {b : Bool} : isiB cs .int (.bl b) = some true := (rfl)
theorem tb_bl_str {b : Bool} : isiB cs .str (.bl b) = some false := (rfl)
theorem tb_bl_lst {b : Bool} : isiB cs .lst (.bl b) = some false := (rfl)
theorem tb_bl_tup {b : Bool} : isiB cs .tup (.bl b) = some false := (rfl)
theorem tb_bl_dic {b : Bool} : isiB cs .dic (.bl b) = some false := (rfl)
theorem tb_int_bl {i : Int} : isiB cs .bl (.int i) = some false := (rfl)
theorem tb_int_int {i : Int} : isiB cs .int (.int i) = some true := (rfl)
theorem tb_int_str {i : Int} : isiB cs .str (.int i) = some false := (rfl)
theorem tb_int_lst {i : Int} : isiB cs .lst (.int i) = some false := (rfl)
theorem tb_int_tup {i : Int} : isiB cs .tup (.int i) = some false := (rfl)
theorem tb_int_dic {i : Int} : isiB cs .dic (.int i) = some false := (rfl)
theorem tb_str_bl {x : Str} : isiB cs .bl (.str x) = some false := (rfl)
theorem tb_str_int {x : Str} : isiB cs .int (.str x) = some false := (rfl)
theorem tb_str_str {x : Str} : isiB cs .str (.str x) = some true := (rfl)
theorem tb_str_lst {x : Str} : isiB cs .lst (.str x) = some false := (rfl)
theorem tb_str_tup {x : Str} : isiB cs .tup (.str x) = some false := (rfl)
theorem tb_str_dic {x : Str} : isiB cs .dic (.str x) = some false := (rfl)
theorem tb_lst_bl {xs : List D} : isiB cs .bl (.lst xs) = some false := (rfl)
theorem tb_lst_int {xs : List D} : isiB cs .int (.lst xs) = some false := (rfl)
theorem tb_lst_str {xs : List D} : isiB cs .str (.lst xs) = some false := (rfl)
theorem tb_lst_lst {xs : List D} : isiB cs .lst (.lst xs) = some true := (rfl)
theorem tb_lst_tup {xs : List D} : isiB cs .tup (.lst xs) = some false := (rfl)
theorem tb_lst_dic {xs : List D} : isiB cs .dic (.lst xs) = some false := (rfl)
theorem tb_tup_bl {xs : List D} : isiB cs .bl (.tup xs) = some false := (rfl)
theorem tb_tup_int {xs : List D} : isiB cs .int (.tup xs) = some false := (rfl)
theorem tb_tup_str {xs : List D} : isiB cs .str (.tup xs) = some false := (rfl)
theorem tb_tup_lst {xs : List D} : isiB cs .lst (.tup xs) = some false := (rfl)
theorem tb_tup_tup {xs : List D} : isiB cs .tup (.tup xs) = some true := (rfl)
theorem tb_tup_dic {xs : List D} : isiB cs .dic (.tup xs) = some false := (rfl)
theorem tb_dic_bl {ks : List Key} {xs : List D} : isiB cs .bl (.dic ks xs) = some false := (rfl)
theorem tb_dic_int {ks : List Key} {xs : List D} : isiB cs .int (.dic ks xs) = some false := (rfl)
theorem tb_dic_str {ks : List Key} {xs : List D} : isiB cs .str (.dic ks xs) = some false := (rfl)
theorem tb_dic_lst {ks : List Key} {xs : List D} : isiB cs .lst (.dic ks xs) = some false := (rfl)
theorem tb_dic_tup {ks : List Key} {xs : List D} : isiB cs .tup (.dic ks xs) = some false := (rfl)
theorem tb_dic_dic {ks : List Key} {xs : List D} : isiB cs .dic (.dic ks xs) = some true := (rfl)
theorem tb_ins_bl {c : Str} {ns : List Str} {xs : List D} : isiB cs .bl (.ins c ns xs) = if c ∈ cs then some false else none := (rfl)
theorem tb_ins_int {c : Str} {ns : List Str} {xs : List D} : isiB cs .int (.ins c ns xs) = if c ∈ cs then some false else none := (rfl)
theorem tb_ins_str {c : Str} {ns : List Str} {xs : List D} : isiB cs .str (.ins c ns xs) = if c ∈ cs then some false else none := (rfl)
theorem tb_ins_lst {c : Str} {ns : List Str} {xs : List D} : isiB cs .lst (.ins c ns xs) = if c ∈ cs then some false else none := (rfl)
theorem tb_ins_tup {c : Str} {ns : List Str} {xs : List D} : isiB cs .tup (.ins c ns xs) = if c ∈ cs then some false else none := (rfl)
theorem tb_ins_dic {c : Str} {ns : List Str} {xs : List D} : isiB cs .dic (.ins c ns xs) = if c ∈ cs then some false else none := (rfl)
theorem is_non : isD .non .non = some (.bl true) := (rfl)
theorem isn_non : isnD .non .non = some (.bl false) := (rfl)
theorem is_bl {b : Bool} : isD (.bl b) .non = some (.bl false) := (rfl)
theorem isn_bl {b : Bool} : isnD (.bl b) .non = some (.bl true) := (rfl)
theorem is_int {i : Int} : isD (.int i) .non = some (.bl false) := (rfl)
theorem isn_int {i : Int} : isnD (.int i) .non = some (.bl true) := (rfl)
theorem is_str {x : Str} : isD (.str x) .non = some (.bl false) := (rfl)
theorem isn_str {x : Str} : isnD (.str x) .non = some (.bl true) := (rfl)
theorem is_lst {xs : List D} : isD (.lst xs) .non = some (.bl false) := (rfl)
theorem isn_lst {xs : List D} : isnD (.lst xs) .non = some (.bl true) := (rfl)
theorem is_tup {xs : List D} : isD (.tup xs) .non = some (.bl false) := (rfl)
theorem isn_tup {xs : List D} : isnD (.tup xs) .non = some (.bl true) := (rfl)
theorem is_dic {ks : List Key} {xs : List D} : isD (.dic ks xs) .non = some (.bl false) := (rfl)
theorem isn_dic {ks : List Key} {xs : List D} : isnD (.dic ks xs) .non = some (.bl true) := (rfl)
end
end Vi

namespace Vi
open PySem PySem.Spec L2
section
variable {X : XP} {ρ : En} {N : En → Prop} {R : D → En → Prop} {Q : D → En → Prop}
def nonQ (d : D) (p : Prop) : Prop := match d with
  | .non => p
  | _ => False
theorem nonQ_n {p : Prop} : nonQ .non p = p := (rfl)
def mkK (c : Str) (F : FN) (dv : List D) (ds : List D) : List D → M D := fun zs ρ => match F (.mu (.ins c [] []) :: (ds ++ (dv ++ zs)).map .dat) with
  | .ok .non (.mu m' :: _) => .ok m'.toD ρ
  | .ex c' ns es _ => .ex c' ns es ρ
  | _ => .no
theorem wp_make {c : Str} {F : FN} {fs gs : List (M D)} {dv : List D} : wpM X (vMake c F fs gs dv) ρ Q = wpM X (evd fs) ρ fun ds ρ1 => wpM X (evd gs) ρ1 fun zs ρ2 => sp X F (.mu (.ins c [] []) :: (ds ++ (dv ++ zs)).map .dat) fun d as => nonQ d (muQ as fun m' => Q m'.toD ρ2) := by
  unfold vMake
  rw [wp_bind]
  congr 1
  funext ds ρ1
  rw [wp_bind]
  congr 1
  funext zs ρ2
  unfold wpM sp
  dsimp only
  generalize F (.mu (.ins c [] []) :: (ds ++ (dv ++ zs)).map .dat) = r
  cases r with
  | ok d as =>
    cases d with
    | non =>
      cases as with
      | nil => rfl
      | cons s r => cases s <;> rfl
    | _ =>
      cases as with
      | nil => rfl
      | cons s r => cases s <;> rfl
  | ex _ _ _ _ => rfl
  | no => rfl
def insQ (o : Option MO) (P : Str → List Str → List D → Prop) : Prop := match o with
  | some (.ins c ns ds) => P c ns ds
  | _ => False
theorem insQ_i {c : Str} {ns : List Str} {ds : List D} {P : Str → List Str → List D → Prop} : insQ (some (.ins c ns ds)) P = P c ns ds := (rfl)
theorem wb_fld {cs : List Str} {i : Nat} {f : Str} {fv : M D} : wpB X (vFld cs i f fv) ρ N R = wpM X fv ρ fun d ρ0 => insQ (owS ρ0 i) fun c ns ds => (c ∈ cs ∧ ns.length ≤ 500) ∧ N (putM ρ0 i (.ins c (putN f d ns ds).1 (putN f d ns ds).2)) := by
  unfold vFld
  rw [wb_sb]
  congr 1
  funext d ρ0
  unfold wpB
  dsimp only
  cases owS ρ0 i with
  | none => rfl
  | some m =>
    cases m with
    | ins c ns ds =>
      dsimp only [insQ]
      by_cases h : c ∈ cs ∧ ns.length ≤ 500
      · rw [if_pos h, eq_true h, true_and]
      · rw [if_neg h, eq_false h, false_and]
    | _ => rfl
theorem toD_i {c : Str} {ns : List Str} {ds : List D} : MO.toD (.ins c ns ds) = .ins c ns ds := (rfl)
theorem fld_i {cs : List Str} {f c : Str} {ns : List Str} {ds : List D} : fldD cs f (.ins c ns ds) = if c ∈ cs then lkD f ns ds else none := (rfl)
end
end Vi

namespace Vi
open PySem PySem.Spec L2
local macro_rules | `(tactic| walk_at "w") => `(tactic| simp only [wp_bind, wp_ret, wq_opt, wq_opx, wp_opv, wp_opo, wp_evs0, wp_evsC, wq_nm, wq_ex, wp_evd0, wp_evdC, wp_frz, wp_tb, wp_not, wp_and, wp_or, wp_andV, wp_orV, wp_notV, wp_ifE, wp_tup, wp_lst, wp_rng, wq_seq, wp_ite, wb_ite, vChain, vTt, vIfE, wb_seq, wb_nx, wb_set, wb_setO, wb_drop, wb_ret, wb_retN, wb_if, wb_par, wq_asg, wb_for, wp_call, wq_callL, wp_sl, wp_evon, wp_evo, wq_slx, wp_lc, wp_pop, wb_raise, wp_isE, wp_xf, wp_dic, wp_zip, wipeE, restE, ob_some, ob_none, ob_if, ob_map, rds0, rdsL, rdsR, rd_l, rd_r, o1_1, o2_2, o3_3, mod_i, fdv_i, pw6, pw12, pw18, pw24, pw29, pw30, pw60, ii0_i, cmpI, add_i, add_l, mul_i, mul_l, mulo_l, int_i, neg_i, abs_i, len_l, len_t, tup_l, tup_t, lst_l, lst_t, seq_l, seq_t, toD_l, ix_l, ix_t, eq_i, ne_i, eq_s, ne_s, eq_b, ne_b, asg_nm, List.map_cons, List.map_nil, wq_put, putQ_i, muQ_m, appQ_l, back_m, back_d, rng_i, rng_3, at6_0, at6_1, at6_2, at6_3, at6_4, at6_5, ix6_1, ix6_2, ix6_3, ix6_4, wq_var, asg_t, asgs0, asgsC, decide_eq_true_eq, Bool.not_eq_true', decide_eq_false_iff_not, List.cons_append, List.nil_append, gk0, sk0, rkd0, rko0, rkm0, oko0, okm0, pko0, pkm0, lko0, lkm0, cMo0, cMm0, aPo0, aPm0, gk1, sk1, rkd1, rko1, rkm1, oko1, okm1, pko1, pkm1, lko1, lkm1, cMo1, cMm1, aPo1, aPm1, gk2, sk2, rkd2, rko2, rkm2, oko2, okm2, pko2, pkm2, lko2, lkm2, cMo2, cMm2, aPo2, aPm2, gk3, sk3, rkd3, rko3, rkm3, oko3, okm3, pko3, pkm3, lko3, lkm3, cMo3, cMm3, aPo3, aPm3, gk4, sk4, rkd4, rko4, rkm4, oko4, okm4, pko4, pkm4, lko4, lkm4, cMo4, cMm4, aPo4, aPm4, gk5, sk5, rkd5, rko5, rkm5, oko5, okm5, pko5, pkm5, lko5, lkm5, cMo5, cMm5, aPo5, aPm5, gk6, sk6, rkd6, rko6, rkm6, oko6, okm6, pko6, pkm6, lko6, lkm6, cMo6, cMm6, aPo6, aPm6, gk7, sk7, rkd7, rko7, rkm7, oko7, okm7, pko7, pkm7, lko7, lkm7, cMo7, cMm7, aPo7, aPm7, gk8, sk8, rkd8, rko8, rkm8, oko8, okm8, pko8, pkm8, lko8, lkm8, cMo8, cMm8, aPo8, aPm8, gk9, sk9, rkd9, rko9, rkm9, oko9, okm9, pko9, pkm9, lko9, lkm9, cMo9, cMm9, aPo9, aPm9, gk10, sk10, rkd10, rko10, rkm10, oko10, okm10, pko10, pkm10, lko10, lkm10, cMo10, cMm10, aPo10, aPm10, gk11, sk11, rkd11, rko11, rkm11, oko11, okm11, pko11, pkm11, lko11, lkm11, cMo11, cMm11, aPo11, aPm11, gk12, sk12, rkd12, rko12, rkm12, oko12, okm12, pko12, pkm12, lko12, lkm12, cMo12, cMm12, aPo12, aPm12, gk13, sk13, rkd13, rko13, rkm13, oko13, okm13, pko13, pkm13, lko13, lkm13, cMo13, cMm13, aPo13, aPm13])
local macro_rules | `(tactic| walk_at "v") => `(tactic| simp only [wp_bind, wp_ret, wq_opt, wq_opx, wp_opv, wp_opo, wp_evs0, wp_evsC, wq_nm, wq_ex, wp_evd0, wp_evdC, wp_frz, wp_not, wp_and, wp_or, wp_andV, wp_orV, wp_notV, wp_ifE, wp_tup, wp_lst, wp_rng, wq_seq, wp_ite, wb_ite, vChain, vTt, vIfE, wb_seq, wb_nx, wb_set, wb_setO, wb_drop, wb_ret, wb_retN, wb_if, wq_asg, wb_for, wp_call, wq_callL, wp_sl, wp_evon, wp_evo, wq_slx, wp_lc, wp_pop, wb_raise, wp_dic, wipeE, restE, ob_some, ob_none, ob_if, ob_map, rds0, rdsL, rdsR, rd_l, rd_r, o1_1, o2_2, o3_3, mod_i, fdv_i, pw6, pw12, pw18, pw24, pw29, pw30, pw60, ii0_i, cmpI, add_i, add_l, mul_i, mul_l, mulo_l, int_i, neg_i, abs_i, len_l, len_t, tup_l, tup_t, lst_l, lst_t, seq_l, seq_t, toD_l, ix_l, ix_t, eq_i, ne_i, eq_s, ne_s, eq_b, ne_b, asg_nm, List.map_cons, List.map_nil, wq_put, putQ_i, muQ_m, appQ_l, back_m, back_d, rng_i, rng_3, at6_0, at6_1, at6_2, at6_3, at6_4, at6_5, ix6_1, ix6_2, ix6_3, ix6_4, wq_var, asg_t, asgs0, asgsC, decide_eq_true_eq, Bool.not_eq_true', decide_eq_false_iff_not, List.cons_append, List.nil_append, gk0, sk0, rkd0, rko0, rkm0, oko0, okm0, pko0, pkm0, lko0, lkm0, cMo0, cMm0, aPo0, aPm0, gk1, sk1, rkd1, rko1, rkm1, oko1, okm1, pko1, pkm1, lko1, lkm1, cMo1, cMm1, aPo1, aPm1, gk2, sk2, rkd2, rko2, rkm2, oko2, okm2, pko2, pkm2, lko2, lkm2, cMo2, cMm2, aPo2, aPm2, gk3, sk3, rkd3, rko3, rkm3, oko3, okm3, pko3, pkm3, lko3, lkm3, cMo3, cMm3, aPo3, aPm3, gk4, sk4, rkd4, rko4, rkm4, oko4, okm4, pko4, pkm4, lko4, lkm4, cMo4, cMm4, aPo4, aPm4, gk5, sk5, rkd5, rko5, rkm5, oko5, okm5, pko5, pkm5, lko5, lkm5, cMo5, cMm5, aPo5, aPm5, gk6, sk6, rkd6, rko6, rkm6, oko6, okm6, pko6, pkm6, lko6, lkm6, cMo6, cMm6, aPo6, aPm6, gk7, sk7, rkd7, rko7, rkm7, oko7, okm7, pko7, pkm7, lko7, lkm7, cMo7, cMm7, aPo7, aPm7, gk8, sk8, rkd8, rko8, rkm8, oko8, okm8, pko8, pkm8, lko8, lkm8, cMo8, cMm8, aPo8, aPm8, gk9, sk9, rkd9, rko9, rkm9, oko9, okm9, pko9, pkm9, lko9, lkm9, cMo9, cMm9, aPo9, aPm9, gk10, sk10, rkd10, rko10, rkm10, oko10, okm10, pko10, pkm10, lko10, lkm10, cMo10, cMm10, aPo10, aPm10, gk11, sk11, rkd11, rko11, rkm11, oko11, okm11, pko11, pkm11, lko11, lkm11, cMo11, cMm11, aPo11, aPm11, gk12, sk12, rkd12, rko12, rkm12, oko12, okm12, pko12, pkm12, lko12, lkm12, cMo12, cMm12, aPo12, aPm12, gk13, sk13, rkd13, rko13, rkm13, oko13, okm13, pko13, pkm13, lko13, lkm13, cMo13, cMm13, aPo13, aPm13, wp_make, nonQ_n, wb_fld, insQ_i, toD_i, blD_b, wq_tb, blQ_b, wq_isE, excQ_e, wq_xf, wq_count, wq_zip, zipQ2, wq_par, wq_swap, wq_putE, swQ_t, isi_1, isiT_1, Bool.false_eq_true, if_false, if_true, Bool.not_true, Bool.not_false, true_and, and_true, List.length_map, anyB, anyB0, tb_non_bl, tb_non_int, tb_non_str, tb_non_lst, tb_non_tup, tb_non_dic, tb_bl_bl, tb_bl_int, tb_bl_str, tb_bl_lst, tb_bl_tup, tb_bl_dic, tb_int_bl, tb_int_int, tb_int_str, tb_int_lst, tb_int_tup, tb_int_dic, tb_str_bl, tb_str_int, tb_str_str, tb_str_lst, tb_str_tup, tb_str_dic, tb_lst_bl, tb_lst_int, tb_lst_str, tb_lst_lst, tb_lst_tup, tb_lst_dic, tb_tup_bl, tb_tup_int, tb_tup_str, tb_tup_lst, tb_tup_tup, tb_tup_dic, tb_dic_bl, tb_dic_int, tb_dic_str, tb_dic_lst, tb_dic_tup, tb_dic_dic, tb_ins_bl, tb_ins_int, tb_ins_str, tb_ins_lst, tb_ins_tup, tb_ins_dic, is_non, is_bl, is_int, is_str, is_lst, is_tup, is_dic, isn_non, isn_bl, isn_int, isn_str, isn_lst, isn_tup, isn_dic])
local macro_rules | `(tactic| walk_at "u") => `(tactic| try simp only [wp_bind, wp_ret, wq_opt, wq_opx, wp_opv, wp_opo, wp_evs0, wp_evsC, wq_nm, wq_ex, wp_evd0, wp_evdC, wp_frz, wp_not, wp_and, wp_or, wp_andV, wp_orV, wp_notV, wp_ifE, wp_tup, wp_lst, wp_rng, wq_seq, wp_ite, wb_ite, vChain, vTt, vIfE, wb_seq, wb_nx, wb_set, wb_setO, wb_drop, wb_ret, wb_retN, wb_if, wq_asg, wb_for, wp_call, wq_callL, wp_sl, wp_evon, wp_evo, wq_slx, wp_lc, wp_pop, wb_raise, wp_dic, wipeE, restE, ob_some, ob_none, ob_if, ob_map, rds0, rdsL, rdsR, rd_l, rd_r, o1_1, o2_2, o3_3, mod_i, fdv_i, pw6, pw12, pw18, pw24, pw29, pw30, pw60, ii0_i, cmpI, add_i, add_l, mul_i, mul_l, mulo_l, int_i, neg_i, abs_i, len_l, len_t, tup_l, tup_t, lst_l, lst_t, seq_l, seq_t, toD_l, ix_l, ix_t, eq_i, ne_i, eq_s, ne_s, eq_b, ne_b, asg_nm, List.map_cons, List.map_nil, wq_put, putQ_i, muQ_m, appQ_l, back_m, back_d, rng_i, rng_3, at6_0, at6_1, at6_2, at6_3, at6_4, at6_5, ix6_1, ix6_2, ix6_3, ix6_4, wq_var, asg_t, asgs0, asgsC, decide_eq_true_eq, Bool.not_eq_true', decide_eq_false_iff_not, List.cons_append, List.nil_append, gk0, sk0, rkd0, rko0, rkm0, oko0, okm0, pko0, pkm0, lko0, lkm0, cMo0, cMm0, aPo0, aPm0, gk1, sk1, rkd1, rko1, rkm1, oko1, okm1, pko1, pkm1, lko1, lkm1, cMo1, cMm1, aPo1, aPm1, gk2, sk2, rkd2, rko2, rkm2, oko2, okm2, pko2, pkm2, lko2, lkm2, cMo2, cMm2, aPo2, aPm2, gk3, sk3, rkd3, rko3, rkm3, oko3, okm3, pko3, pkm3, lko3, lkm3, cMo3, cMm3, aPo3, aPm3, gk4, sk4, rkd4, rko4, rkm4, oko4, okm4, pko4, pkm4, lko4, lkm4, cMo4, cMm4, aPo4, aPm4, gk5, sk5, rkd5, rko5, rkm5, oko5, okm5, pko5, pkm5, lko5, lkm5, cMo5, cMm5, aPo5, aPm5, gk6, sk6, rkd6, rko6, rkm6, oko6, okm6, pko6, pkm6, lko6, lkm6, cMo6, cMm6, aPo6, aPm6, gk7, sk7, rkd7, rko7, rkm7, oko7, okm7, pko7, pkm7, lko7, lkm7, cMo7, cMm7, aPo7, aPm7, gk8, sk8, rkd8, rko8, rkm8, oko8, okm8, pko8, pkm8, lko8, lkm8, cMo8, cMm8, aPo8, aPm8, gk9, sk9, rkd9, rko9, rkm9, oko9, okm9, pko9, pkm9, lko9, lkm9, cMo9, cMm9, aPo9, aPm9, gk10, sk10, rkd10, rko10, rkm10, oko10, okm10, pko10, pkm10, lko10, lkm10, cMo10, cMm10, aPo10, aPm10, gk11, sk11, rkd11, rko11, rkm11, oko11, okm11, pko11, pkm11, lko11, lkm11, cMo11, cMm11, aPo11, aPm11, gk12, sk12, rkd12, rko12, rkm12, oko12, okm12, pko12, pkm12, lko12, lkm12, cMo12, cMm12, aPo12, aPm12, gk13, sk13, rkd13, rko13, rkm13, oko13, okm13, pko13, pkm13, lko13, lkm13, cMo13, cMm13, aPo13, aPm13, wp_make, nonQ_n, wb_fld, insQ_i, toD_i, blD_b, wq_tb, blQ_b, wq_isE, excQ_e, wq_xf, wq_count, wq_zip, zipQ2, wq_par, wq_swap, wq_putE, swQ_t, isi_1, isiT_1, Bool.false_eq_true, if_false, if_true, Bool.not_true, Bool.not_false, true_and, and_true, List.length_map, anyB, anyB0, tb_non_bl, tb_non_int, tb_non_str, tb_non_lst, tb_non_tup, tb_non_dic, tb_bl_bl, tb_bl_int, tb_bl_str, tb_bl_lst, tb_bl_tup, tb_bl_dic, tb_int_bl, tb_int_int, tb_int_str, tb_int_lst, tb_int_tup, tb_int_dic, tb_str_bl, tb_str_int, tb_str_str, tb_str_lst, tb_str_tup, tb_str_dic, tb_lst_bl, tb_lst_int, tb_lst_str, tb_lst_lst, tb_lst_tup, tb_lst_dic, tb_tup_bl, tb_tup_int, tb_tup_str, tb_tup_lst, tb_tup_tup, tb_tup_dic, tb_dic_bl, tb_dic_int, tb_dic_str, tb_dic_lst, tb_dic_tup, tb_dic_dic, tb_ins_bl, tb_ins_int, tb_ins_str, tb_ins_lst, tb_ins_tup, tb_ins_dic, is_non, is_bl, is_int, is_str, is_lst, is_tup, is_dic, isn_non, isn_bl, isn_int, isn_str, isn_lst, isn_tup, isn_dic])
theorem wb_seqI {X : XP} {i : Nat} {f : M D} {g : VS} {ρ : En} {N : En → Prop} {R : D → En → Prop} (C : Int → Prop) (h1 : wpM X f ρ fun d ρ' => ρ' = ρ ∧ ∃ x, d = .int x ∧ C x)
    (h2 : ∀ x, C x → wpB X g (ρ.set i (.dat (.int x))) N R) : wpB X (vSeq (vSet i f) g) ρ N R := by
  rw [wb_seq, wb_set]
  refine wp_imp h1 ?_
  rintro d ρ' ⟨rfl, x, rfl, hx⟩
  exact h2 x hx
theorem wb_seqJ {X : XP} {f g : VS} {ρ : En} {N : En → Prop} {R : D → En → Prop} (N1 : En → Prop) (h1 : wpB X f ρ N1 R) (h2 : ∀ ρ', N1 ρ' → wpB X g ρ' N R) : wpB X (vSeq f g) ρ N R := by
  rw [wb_seq]
  exact wpB_imp h1 h2 fun _ _ h => h
theorem wp_compP {γ : Type} {i : Nat} {elt : M D} {vs : List Nat} {ρ0 : En} (f g : γ → D) : ∀ (xs : List γ) {Q : List D → En → Prop}, (∀ x ∈ xs, wpM XF elt (ρ0.set i (.dat (f x))) fun e ρ2 => e = g x ∧ wipeE ρ2 vs = ρ0) → Q (xs.map g) ρ0 → wpM XF (compD (.nm i) (ret true) elt vs (xs.map f)) ρ0 Q
  | [], Q, h, hq => hq
  | x :: xs, Q, h, hq => by
    rw [List.map_cons, wp_compC]
    show wpM XF (ret true) _ _
    rw [wp_ret, if_pos rfl]
    refine wp_imp (h x List.mem_cons_self) ?_
    rintro e ρ2 ⟨rfl, hw⟩
    rw [hw]
    exact wp_compP f g xs (Q := fun es ρ4 => Q (g x :: es) ρ4) (fun y hy => h y (List.mem_cons_of_mem _ hy)) hq
theorem modC_p {a p : Int} (h : 0 < p) : modC a p = true := by
  unfold modC
  exact decide_eq_true (by omega)
theorem lgB {x : Int} {k : Nat} (h : x.natAbs < 2 ^ k) : x.natAbs.log2 ≤ k := by
  by_cases e : x.natAbs = 0
  · rw [e]; exact Nat.zero_le _
  · exact Nat.le_of_lt ((Nat.log2_lt e).2 h)
theorem lg61 {x : Int} (h0 : -2305843009213693951 ≤ x) (h1 : x ≤ 2305843009213693951) : x.natAbs.log2 ≤ 62 := lgB (by omega)
theorem lgM {x y : Int} {a b : Nat} (h1 : x.natAbs.log2 ≤ a) (h2 : y.natAbs.log2 ≤ b) (h : a + b < 1000000 := by decide) : x.natAbs.log2 + y.natAbs.log2 < 1000000 := by omega
theorem divC_p {a p : Int} {k : Nat} (h : 0 < p) (h2 : p.natAbs < 2 ^ k) (h3 : k < 9000 := by decide) : divC a p = true := by
  unfold divC
  have := lgB h2
  exact decide_eq_true (by omega)
theorem fm0 {a p : Int} (h : 0 < p) : 0 ≤ a.fmod p := Int.fmod_nonneg_of_pos a h
theorem fm1 {a p : Int} (h : 0 < p) : a.fmod p < p := Int.fmod_lt_of_pos a h
theorem mix_sp {a t : Int} {P : D → En → Prop} (h0 : 0 ≤ t) (h1 : t ≤ 1000000000000) (hp : ∀ r : Int, 0 ≤ r → r < 2305843009213693951 → P (.int r) [.dat (.int a), .dat (.int t)]) : sp XF F_w_mix [.dat (.int a), .dat (.int t)] P := by
  have p0 : (0 : Int) < 2305843009213693951 := by decide
  unfold F_w_mix
  refine sp_run ?_
  unfold b_w_mix
  show wpB XF _ [.dat (.int a), .dat (.int t), .emp, .emp] _ _
  refine wb_seqI (fun x => x = 2305843009213693951) ⟨rfl, _, rfl, rfl⟩ ?_
  rintro _ rfl
  refine wb_seqI (fun x => 0 ≤ x ∧ x < 2305843009213693951) (by walk_at "w"; exact ⟨modC_p p0, trivial, _, rfl, fm0 p0, fm1 p0⟩) ?_
  rintro x ⟨h2, h3⟩
  have lt : t.natAbs.log2 ≤ 62 := lg61 (by omega) (by omega)
  have lt1 : (t + 1).natAbs.log2 ≤ 62 := lg61 (by omega) (by omega)
  have lc : ∀ c : Int, -2305843009213693951 ≤ c → c ≤ 2305843009213693951 → c.natAbs.log2 ≤ 62 := fun c => lg61
  have lx : x.natAbs.log2 ≤ 62 := lg61 (by omega) (by omega)
  refine wb_seqI (fun x => 0 ≤ x ∧ x < 2305843009213693951) (by walk_at "w"; exact ⟨lgM lx (lc _ (by decide) (by decide)), lgM lt1 (lc _ (by decide) (by decide)), modC_p p0, trivial, _, rfl, fm0 p0, fm1 p0⟩) ?_
  rintro x ⟨h2, h3⟩
  have lx : x.natAbs.log2 ≤ 62 := lg61 (by omega) (by omega)
  refine wb_seqI (fun x => 0 ≤ x ∧ x < 2305843009213693951) (by walk_at "w"; exact ⟨lgM lx lx, lgM lx (lc _ (by decide) (by decide)), modC_p p0, trivial, _, rfl, fm0 p0, fm1 p0⟩) ?_
  rintro x ⟨h2, h3⟩
  have lx : x.natAbs.log2 ≤ 62 := lg61 (by omega) (by omega)
  refine wb_seqI (fun x => 0 ≤ x ∧ x < 2305843009213693951) (by walk_at "w"; exact ⟨lgM lx lx, lgM lt (lc _ (by decide) (by decide)), modC_p p0, trivial, _, rfl, fm0 p0, fm1 p0⟩) ?_
  rintro x ⟨h2, h3⟩
  walk_at "w"
  refine ⟨divC_p (k := 13) (by decide) (by decide), ?_⟩
  have h4 : 0 ≤ x.fdiv 4096 ∧ x.fdiv 4096 < 2305843009213693951 := by
    rw [Int.fdiv_eq_ediv_of_nonneg _ (by decide)]
    omega
  exact hp _ h4.1 h4.2
/-- the store: the cells, where one stands in them, what is left of a great cell, how often a cell was asked, how many were taken, the seed -/
def Sto (n : Int) (m : MO) : Prop := ∃ (cells : List Int) (a b c e s : Int), m = .lst [.lst (cells.map .int), .int a, .int b, .int c, .int e, .int s] ∧ 0 ≤ a ∧ 0 ≤ e ∧ e ≤ n
theorem fmB {a p : Int} : 0 ≤ a.fmod p ∧ (a.fmod p < p ∨ a.fmod p = 0) ∨ p ≤ 0 := by
  by_cases h : 0 < p
  · exact .inl ⟨fm0 h, .inl (fm1 h)⟩
  · exact .inr (by omega)
theorem take_sp {n lim : Int} {m : MO} {P : D → En → Prop} (hm : Sto n m) (hn : n ≤ 1000000000) (hl : lim ≤ 1000000000000)
    (hp : ∀ r m', Sto (n + 1) m' → 0 ≤ r → (r < lim ∨ r = 0) → P (.int r) [.mu m', .dat (.int lim)]) : sp XF F_w_take [.mu m, .dat (.int lim)] P := by
  unfold F_w_take
  refine sp_run ?_
  unfold b_w_take
  show wpB XF _ [.mu m, .dat (.int lim), .emp, .emp, .emp] _ _
  obtain ⟨cells, a, b, c, e, s, rfl, ha, he0, hen⟩ := hm
  by_cases h : lim < 2
  · walk_at "w"
    rw [if_pos h]
    exact hp 0 _ ⟨cells, a, b, c, e, s, rfl, ha, he0, by omega⟩ (Int.le_refl _) (.inr rfl)
  · have l0 : 0 < lim := by omega
    have dl : ∀ x, divC x lim = true := fun x => divC_p (k := 40) l0 (by omega)
    walk_at "w"
    rw [if_neg h]
    refine ⟨trivial, by decide, ?_⟩
    refine wb_forI (fun _ ρ => ∃ m x2 x3 x4, ρ = [.mu m, .dat (.int lim), x2, x3, x4] ∧ Sto (n + 1) m) _ 0 _ ⟨_, _, _, _, rfl, ⟨cells, a, b, c, e + 1, s, rfl, ha, by omega, by omega⟩⟩ ?_ ?_
    · rintro i d ρ hi ⟨m, x2, x3, x4, rfl, cells, a, b, c, e, s, rfl, ha, he0, hen⟩
      have fl : ∀ x : Int, (x.fmod lim < lim ∨ x.fmod lim = 0) := fun x => .inl (fm1 l0)
      walk_at "w"
      split
      · exact ⟨modC_p l0, dl _, trivial, hp _ _ ⟨cells, a, _, c, e, s, rfl, ha, he0, hen⟩ (fm0 l0) (fl _)⟩
      · split
        · exact mix_sp he0 (by omega) fun r h1 h2 => by
            walk_at "w"
            exact ⟨modC_p l0, hp _ _ ⟨cells, a, b, c, e, s, rfl, ha, he0, hen⟩ (fm0 l0) (fl _)⟩
        · rename_i h1 h2
          rw [List.length_map] at h2
          have hi : a.toNat < cells.length := by omega
          rw [at_n ha (by rw [List.length_map]; omega), List.getElem?_map, List.getElem?_eq_getElem hi]
          generalize cells[a.toNat] = cell
          have p3 : powC 1000000000000000000000000000000000000000000000000000000000000 14 = true := by decide +kernel
          simp only [Option.map_some, ob_some]
          walk_at "w"
          split
          · simp only [ii_i, ob_if]
            exact ⟨trivial, p3, modC_p (Int.pow_pos (by decide)), trivial, _, _, _, _, rfl, cells, a + 1, _, c, e, s, rfl, by omega, he0, hen⟩
          · refine ⟨trivial, ?_⟩
            split
            · refine ⟨trivial, trivial, mix_sp he0 (by omega) fun r h1 h2 => ?_⟩
              walk_at "w"
              exact ⟨modC_p l0, hp _ _ ⟨cells, a + 1, b, 0, e, s, rfl, by omega, he0, hen⟩ (fm0 l0) (fl _)⟩
            · refine mix_sp he0 (by omega) fun r h1 h2 => ?_
              walk_at "w"
              exact ⟨modC_p l0, hp _ _ ⟨cells, a, b, c + 1, e, s, rfl, ha, he0, hen⟩ (fm0 l0) (fl _)⟩
    · rintro ρ ⟨m, x2, x3, x4, rfl, hm⟩
      walk_at "w"
      exact hp 0 _ hm (Int.le_refl _) (.inr rfl)
/-- what a def makes that draws -/
def SpM (F : FN) (n : Int) (k : Int) (args : List D) (A : D → Prop) : Prop := ∀ m, Sto n m → sp XF F (.mu m :: args.map .dat) fun d as => ∃ m', as = .mu m' :: args.map .dat ∧ Sto (n + k) m' ∧ A d
theorem Sto.mono {n k : Int} {m : MO} (h : Sto n m) (hk : n ≤ k) : Sto k m := by
  obtain ⟨cells, a, b, c, e, s, rfl, h1, h2, h3⟩ := h
  exact ⟨cells, a, b, c, e, s, rfl, h1, h2, by omega⟩
theorem SpM.go {F : FN} {n k : Int} {args : List D} {A : D → Prop} {m : MO} {P : D → En → Prop} (h : SpM F n k args A) (hm : Sto n m) (hp : ∀ d m', Sto (n + k) m' → A d → P d (.mu m' :: args.map .dat)) : sp XF F (.mu m :: args.map .dat) P :=
  sp_imp (h m hm) fun d as ⟨m', e, h1, h2⟩ => e ▸ hp d m' h1 h2

theorem pick_sp {n : Int} {m : MO} {xs : List D} {P : D → En → Prop} (hm : Sto n m) (hn : n ≤ 1000000000) (hx : xs ≠ []) (hl : xs.length ≤ 1000000)
    (hp : ∀ x ∈ xs, ∀ m', Sto (n + 1) m' → P x [.mu m', .dat (.lst xs)]) : sp XF F_w_pick [.mu m, .dat (.lst xs)] P := by
  unfold F_w_pick
  refine sp_run ?_
  unfold b_w_pick
  show wpB XF _ [.mu m, .dat (.lst xs)] _ _
  have h0 : 0 < xs.length := List.length_pos_iff.2 hx
  walk_at "w"
  refine take_sp hm hn (by omega) fun r m1 h1 r0 r1 => ?_
  walk_at "w"
  obtain ⟨x, hx, e⟩ := at_mem r0 (show r < (xs.length : Int) by omega)
  rw [e]
  exact hp x hx m1 h1
theorem small_sp {n size : Int} {m : MO} {P : D → En → Prop} (hm : Sto n m) (hn : n ≤ 900000000) (h1 : 1 ≤ size) (h2 : size ≤ 1000000)
    (hp : ∀ r m', Sto (n + 2) m' → -size ≤ r → r ≤ size → P (.int r) [.mu m', .dat (.int size)]) : sp XF F_w_small [.mu m, .dat (.int size)] P := by
  unfold F_w_small
  refine sp_run ?_
  unfold b_w_small
  show wpB XF _ [.mu m, .dat (.int size), .emp] _ _
  have fin : ∀ (f : Int) m2, Sto (n + 2) m2 → P (.int (if (if f < size then f else size) > -size then (if f < size then f else size) else -size)) [.mu m2, .dat (.int size)] := fun f m2 h => hp _ _ h (by split <;> split <;> omega) (by split <;> split <;> omega)
  walk_at "w"
  refine take_sp hm (by omega) (by omega) fun r m1 h1 r0 r1 => ?_
  walk_at "w"
  split
  · refine take_sp h1 (by omega) (by omega) fun r m2 h2 r0 r1 => ?_
    walk_at "w"
    obtain ⟨x, hx, e⟩ := at_mem (xs := [.int 0, .int 1, .int (-1), .int size, .int (-size)]) r0 (by simp; omega)
    rw [e]
    simp only [List.mem_cons, List.not_mem_nil, or_false] at hx
    rw [show n + 1 + 1 = n + 2 by omega] at h2
    rcases hx with rfl | rfl | rfl | rfl | rfl <;> (walk_at "w"; exact fin _ _ h2)
  · refine ⟨lgM (a := 2) (b := 40) (by decide) (lgB (by omega)), take_sp h1 (by omega) (by omega) fun r m2 h2 r0 r1 => ?_⟩
    rw [show n + 1 + 1 = n + 2 by omega] at h2
    walk_at "w"
    exact fin _ _ h2
theorem rng_get' {k : Nat} {n : Nat} {d : D} (h : (rngL 0 1 n)[k]? = some d) : d = .int k := (rng_get h).1
/-- five parts of six figures each -/
theorem number_sp {n : Int} {m : MO} {P : D → En → Prop} (hm : Sto n m) (hn : n ≤ 800000000)
    (hp : ∀ r m', Sto (n + 7) m' → -1000000000000000000000000000000 ≤ r → r ≤ 1000000000000000000000000000000 → P (.int r) [.mu m']) : sp XF F_w_number [.mu m] P := by
  unfold F_w_number
  refine sp_run ?_
  unfold b_w_number
  show wpB XF _ [.mu m, .emp, .emp, .emp, .emp] _ _
  walk_at "w"
  refine take_sp hm (by omega) (by omega) fun c m1 h1 c0 c1 => ?_
  walk_at "w"
  split
  · refine small_sp h1 (by omega) (by omega) (by omega) fun r m2 h2 r0 r1 => ?_
    walk_at "w"
    exact hp _ _ (h2.mono (by omega)) (by omega) (by omega)
  split
  · refine small_sp h1 (by omega) (by omega) (by omega) fun r m2 h2 r0 r1 => ?_
    walk_at "w"
    exact hp _ _ (h2.mono (by omega)) (by omega) (by omega)
  split
  · refine pick_sp h1 (by omega) (by simp) (by simp) fun x hx m2 h2 => ?_
    walk_at "w"
    simp only [List.mem_cons, List.not_mem_nil, or_false] at hx
    rcases hx with rfl | rfl | rfl | rfl | rfl | rfl | rfl | rfl <;> exact hp _ _ (h2.mono (by omega)) (by decide) (by decide)
  refine ⟨by decide, wb_forI (fun i ρ => ∃ m' g x, ρ = [.mu m', .dat (.int c), .emp, .dat (.int g), x] ∧ Sto (n + 1 + i) m' ∧ 0 ≤ g ∧ g < 10 ^ (6 * i)) _ 0 _ ⟨_, _, _, rfl, h1.mono (by omega), by decide, by decide⟩ ?_ ?_⟩
  · rintro i d ρ hi ⟨m2, g, x, rfl, h2, g0, g1⟩
    obtain ⟨rfl, hk⟩ := rng_get hi
    have hk : i < 5 := hk
    rw [Nat.zero_add] at h2 g1
    have b1 : (10 : Int) ^ (6 * i) ≤ 10 ^ (6 * 5) := by
      rcases (by omega : i = 0 ∨ i = 1 ∨ i = 2 ∨ i = 3 ∨ i = 4) with rfl | rfl | rfl | rfl | rfl <;> decide +kernel
    have b2 : (10 : Int) ^ (6 * 5) = 1000000000000000000000000000000 := by decide +kernel
    have b3 : (10 : Int) ^ (6 * (0 + i + 1)) = 10 ^ (6 * i) * 1000000 := by rw [show 6 * (0 + i + 1) = 6 * i + 6 by omega, Int.pow_add]; rfl
    walk_at "w"
    refine ⟨lgM (a := 200) (b := 40) (lgB (by omega)) (lgB (by decide)), take_sp h2 (by omega) (by omega) fun r m3 h3 r0 r1 => ?_⟩
    walk_at "w"
    exact ⟨_, _, _, rfl, h3.mono (by omega), by omega, by omega⟩
  · rintro ρ ⟨m2, g, x, rfl, h2, g0, g1⟩
    have hl : (rngL 0 1 (Int.toNat 5)).length = 5 := by decide
    rw [hl] at g1 h2
    have b2 : (10 : Int) ^ (6 * (0 + 5)) = 1000000000000000000000000000000 := by decide +kernel
    rw [b2] at g1
    have h2 := h2.mono (show _ ≤ n + 6 by omega)
    have fin : ∀ g : Int, 0 ≤ g → g < 1000000000000000000000000000000 → sp XF F_w_take [.mu m2, .dat (.int 2)] fun d as => muQ as fun m' => oQ (eqD d (.int 0)) fun d => (match d with
        | .bl b => if b = true then P (.int g) [.mu m'] else P (.int (-g)) [.mu m']
        | _ => False) := by
      intro g g0 g1
      refine take_sp h2 (by omega) (by omega) fun r m3 h3 r0 r1 => ?_
      walk_at "w"
      split
      · exact hp _ _ (h3.mono (by omega)) (by omega) (by omega)
      · exact hp _ _ (h3.mono (by omega)) (by omega) (by omega)
    walk_at "w"
    split
    · exact ⟨modC_p (by decide), fin _ (fm0 (by decide)) (Int.lt_trans (fm1 (by decide)) (by decide))⟩
    · exact fin g g0 g1
theorem sizeLine_ge : 1000 ≤ sizeLine := by decide +kernel
/-- a list of whole numbers, each no greater than b either way -/
def Ints (d : List D) (k : Nat) (b : Int) : Prop := ∃ xs : List Int, d = xs.map .int ∧ xs.length = k ∧ ∀ x ∈ xs, -b ≤ x ∧ x ≤ b
theorem rep1 {k : Nat} {v : Int} : (List.replicate k [D.int v]).flatten = (List.replicate k v).map D.int := by
  induction k with
  | zero => rfl
  | succ k ih => rw [List.replicate_succ, List.replicate_succ, List.flatten_cons, ih]; rfl
theorem row_sp {n d size : Int} {m : MO} {P : D → En → Prop} (hm : Sto n m) (hn : n ≤ 700000000) (hd : 1 ≤ d) (hd2 : d ≤ 6) (h1 : 1 ≤ size) (h2 : size ≤ 1000000)
    (hp : ∀ (xs : List Int) m', Sto (n + 20) m' → (xs.length : Int) = d → (∀ x ∈ xs, -size ≤ x ∧ x ≤ size) → P (.tup (xs.map .int)) [.mu m', .dat (.int d), .dat (.int size)]) : sp XF F_w_row [.mu m, .dat (.int d), .dat (.int size)] P := by
  unfold F_w_row
  refine sp_run ?_
  unfold b_w_row
  show wpB XF _ [.mu m, .dat (.int d), .dat (.int size), .emp, .emp, .emp, .emp] _ _
  have sz := sizeLine_ge
  have lr : (rngL 0 1 d.toNat).length = d.toNat := by simp [rngL]
  have m1 : ∀ xs : List D, (List.replicate d.toNat xs).flatten.length = d.toNat * xs.length := by
    intro xs
    simp
  refine wb_seqJ (fun ρ => ∃ m' c, ρ = [.mu m', .dat (.int d), .dat (.int size), .dat (.int c), .emp, .emp, .emp] ∧ Sto (n + 1) m') ?_ ?_
  · walk_at "w"
    refine take_sp hm (by omega) (by omega) fun c m1 h1 c0 c1 => ?_
    walk_at "w"
    exact ⟨_, _, rfl, h1⟩
  rintro _ ⟨m2, c, rfl, h2⟩
  let J : Int → En → Prop := fun k ρ => ∃ (m' : MO) (x : Sl) (xs : List Int), ρ = [.mu m', .dat (.int d), .dat (.int size), .dat (.int c), .own (.lst (xs.map .int)), x, .emp] ∧ (xs.length : Int) = d ∧ (∀ x ∈ xs, -size ≤ x ∧ x ≤ size) ∧ Sto (n + k) m'
  refine wb_seqJ (J 15) ?_ ?_
  · walk_at "w"
    refine ⟨by omega, by rw [lr]; omega, ?_⟩
    refine wp_compI (fun k pre ρ => ∃ m' xs, pre = List.map D.int xs ∧ xs.length = k ∧ (∀ x ∈ xs, -size ≤ x ∧ x ≤ size) ∧ ρ = [.mu m', .dat (.int d), .dat (.int size), .dat (.int c), .emp, .emp, .emp] ∧ Sto (n + 1 + 2 * k) m') _ 0 [] _ ⟨m2, [], rfl, rfl, by simp, rfl, h2.mono (by omega)⟩ ?_ ?_
    · rintro i x pre ρ hi ⟨m3, xs, rfl, hl, hb, rfl, h3⟩
      obtain ⟨rfl, hk⟩ := rng_get hi
      rw [asg_nm]
      dsimp only
      walk_at "w"
      refine small_sp h3 (by omega) (by omega) (by omega) fun r m4 h4 r0 r1 => ?_
      walk_at "w"
      refine ⟨_, xs ++ [r], by simp, by simp; omega, ?_, rfl, h4.mono (by omega)⟩
      intro y hy
      rcases List.mem_append.1 hy with hy | hy
      · exact hb y hy
      · cases List.mem_singleton.1 hy
        exact ⟨r0, r1⟩
    · rintro es ρ ⟨m3, xs, e, hl, hb, rfl, h3⟩
      rw [List.nil_append] at e
      subst e
      walk_at "w"
      rw [lr] at hl h3
      exact ⟨_, _, _, rfl, by omega, hb, h3.mono (by omega)⟩
  have rp : ∀ (k : Int) (m : MO) (x y : Sl) (v : Int), -size ≤ v → v ≤ size → Sto (n + k) m → J k [.mu m, .dat (.int d), .dat (.int size), .dat (.int c), .own (.lst (List.replicate d.toNat [D.int v]).flatten), x, .emp] := by
    intro k m x y v h1 h2 hm
    refine ⟨m, x, List.replicate d.toNat v, by rw [rep1], by rw [List.length_replicate]; omega, ?_, hm⟩
    intro z hz
    cases (List.mem_replicate.1 hz).2
    exact ⟨h1, h2⟩
  have lm : ∀ v : D, -(2 ^ 63) ≤ d ∧ d < 2 ^ 63 ∧ [v].length * d.toNat ≤ sizeLine := fun v => ⟨by omega, by omega, by rw [List.length_singleton]; omega⟩
  rintro _ ⟨m3, x5, xs, rfl, hl, hb, h3⟩
  refine wb_seqJ (J 15) ?_ ?_
  · walk_at "w"
    split
    · exact ⟨lm _, rp 15 m3 x5 x5 0 (by omega) (by omega) h3⟩
    · exact ⟨m3, x5, xs, rfl, hl, hb, h3⟩
  rintro _ ⟨m3, x5, xs, rfl, hl, hb, h3⟩
  refine wb_seqJ (J 17) ?_ ?_
  · walk_at "w"
    split
    · refine ⟨lm _, ?_⟩
      rw [rep1]
      refine pick_sp h3 (by omega) (by simp) (by simp) fun x hx m4 h4 => ?_
      walk_at "w"
      refine ⟨trivial, take_sp h4 (by omega) (by omega) fun r m5 h5 r0 r1 => ?_⟩
      walk_at "w"
      rw [ixN_n r0 (by rw [List.length_map, List.length_replicate]; omega)]
      simp only [List.mem_cons, List.not_mem_nil, or_false] at hx
      have go : ∀ v : Int, -size ≤ v → v ≤ size → x = .int v → J 17 [.mu m5, .dat (.int d), .dat (.int size), .dat (.int c), .own (.lst (((List.replicate d.toNat 0).map D.int).set r.toNat x)), x5, .emp] := by
        rintro v v0 v1 rfl
        refine ⟨m5, x5, (List.replicate d.toNat 0).set r.toNat v, by rw [List.map_set], by rw [List.length_set, List.length_replicate]; omega, ?_, h5.mono (by omega)⟩
        intro z hz
        rcases List.mem_or_eq_of_mem_set hz with hz | rfl
        · cases (List.mem_replicate.1 hz).2
          omega
        · exact ⟨v0, v1⟩
      simp only [ob_some]
      rcases hx with e | e | e | e
      · exact go 1 (by omega) (by omega) e
      · exact go (-1) (by omega) (by omega) e
      · exact go size (by omega) (by omega) e
      · exact go (-size) (by omega) (by omega) e
    · exact ⟨m3, x5, xs, rfl, hl, hb, h3.mono (by omega)⟩
  rintro _ ⟨m3, x5, xs, rfl, hl, hb, h3⟩
  refine wb_seqJ (J 17) ?_ ?_
  · walk_at "w"
    split
    · rw [at_n (by decide) (by rw [List.length_map]; omega), List.getElem?_map]
      have h0 : (0 : Int).toNat < xs.length := by simp; omega
      rw [List.getElem?_eq_getElem h0]
      simp only [Option.map_some, ob_some]
      have := hb _ (List.getElem_mem h0)
      exact ⟨lm _, rp 17 m3 _ x5 _ this.1 this.2 h3⟩
    · exact ⟨m3, x5, xs, rfl, hl, hb, h3⟩
  rintro _ ⟨m3, x5, xs, rfl, hl, hb, h3⟩
  walk_at "w"
  exact hp xs m3 (h3.mono (by omega)) hl hb
theorem great_sp {n d : Int} {b : Bool} {m : MO} {P : D → En → Prop} (hm : Sto n m) (hn : n ≤ 700000000) (hd : 1 ≤ d) (hd2 : d ≤ 6) (hb : b = true → 2 ≤ d)
    (hp : ∀ (xs : List Int) m', Sto (n + 30) m' → (xs.length : Int) = d → (∀ x ∈ xs, -1000006 ≤ x ∧ x ≤ 1000006) → P (.tup (xs.map .int)) [.mu m', .dat (.int d), .dat (.bl b)]) : sp XF F_w_great_vector [.mu m, .dat (.int d), .dat (.bl b)] P := by
  have sz := sizeLine_ge
  have lr : (rngL 0 1 d.toNat).length = d.toNat := by simp [rngL]
  unfold F_w_great_vector
  refine sp_run ?_
  unfold b_w_great_vector
  show wpB XF _ [.mu m, .dat (.int d), .dat (.bl b), .emp, .emp, .emp, .emp, .emp] _ _
  let J : Int → Int → En → Prop := fun l k ρ => ∃ (m' : MO) (x y z w : Sl) (xs : List Int), ρ = [.mu m', .dat (.int d), .dat (.bl b), .own (.lst (xs.map .int)), x, y, z, w] ∧ (xs.length : Int) = l ∧ (∀ x ∈ xs, -1000006 ≤ x ∧ x ≤ 1000006) ∧ Sto (n + k) m'
  refine wb_seqJ (J 0 0) ?_ ?_
  · walk_at "w"
    exact ⟨m, _, _, _, _, [], rfl, rfl, by simp, hm.mono (by omega)⟩
  rintro _ ⟨m1, x, y, z, w, xs, rfl, hl, hx, h1⟩
  refine wb_seqJ (J d 20) ?_ ?_
  · walk_at "w"
    refine ⟨by omega, wb_forI (fun i => J i (3 * i)) _ 0 _ ⟨m1, x, y, z, w, xs, rfl, hl, hx, h1.mono (by omega)⟩ ?_ ?_⟩
    · rintro i d ρ hi ⟨m2, x, y, z, w, xs, rfl, hl, hx, h2⟩
      obtain ⟨rfl, hk⟩ := rng_get hi
      have app : ∀ (v : Int) (m : MO) (x y z w : Sl), -1000000 ≤ v → v ≤ 1000000 → Sto (n + (3 * i + 3)) m → (xs.map D.int).length < sizeLine ∧ J ((0 + i + 1 : Nat) : Int) (3 * ((0 + i + 1 : Nat) : Int)) [.mu m, .dat (.int d), .dat (.bl b), .own (.lst (xs.map .int ++ [.int v])), x, y, z, w] := by
        intro v m x y z w v0 v1 hm
        refine ⟨by rw [List.length_map]; omega, m, x, y, z, w, xs ++ [v], by simp, by simp; omega, ?_, hm.mono (by omega)⟩
        intro q hq
        rcases List.mem_append.1 hq with hq | hq
        · exact hx q hq
        · cases List.mem_singleton.1 hq
          omega
      walk_at "w"
      refine ⟨by decide, take_sp h2 (by omega) (by omega) fun r m3 h3 r0 r1 => ?_⟩
      walk_at "w"
      refine take_sp h3 (by omega) (by omega) fun c m4 h4 c0 c1 => ?_
      walk_at "w"
      split
      · refine pick_sp h4 (by omega) (by simp) (by simp) fun q hq m5 h5 => ?_
        walk_at "w"
        simp only [List.mem_cons, List.not_mem_nil, or_false] at hq
        rcases hq with rfl | rfl <;> exact app _ _ _ _ _ _ (by decide) (by decide) (h5.mono (by omega))
      · exact app _ _ _ _ _ _ (by omega) (by omega) (h4.mono (by omega))
    · rintro ρ ⟨m2, x, y, z, w, xs, rfl, hl, hx, h2⟩
      rw [lr] at hl h2
      exact ⟨m2, x, y, z, w, xs, rfl, by omega, hx, h2.mono (by omega)⟩
  rintro _ ⟨m1, x, y, z, w, xs, rfl, hl, hx, h1⟩
  have put : ∀ (u : Int) (k : Int) (v : Int) (m : MO) (x y z w : Sl), -1000006 ≤ v → v ≤ 1000006 → Sto (n + k) m → J d k [.mu m, .dat (.int d), .dat (.bl b), .own (.lst ((xs.map D.int).set u.toNat (.int v))), x, y, z, w] := by
    intro u k v m x y z w v0 v1 hm
    refine ⟨m, x, y, z, w, xs.set u.toNat v, by rw [List.map_set], by rw [List.length_set]; exact hl, ?_, hm⟩
    intro q hq
    rcases List.mem_or_eq_of_mem_set hq with hq | rfl
    · exact hx q hq
    · exact ⟨v0, v1⟩
  walk_at "w"
  refine take_sp h1 (by omega) (by omega) fun u m2 h2 u0 u1 => ?_
  walk_at "w"
  have one : ∀ x : D, x ∈ [D.int 1, D.int (-1)] → ∃ v : Int, x = .int v ∧ -1 ≤ v ∧ v ≤ 1 := by
    intro x hx
    simp only [List.mem_cons, List.not_mem_nil, or_false] at hx
    rcases hx with rfl | rfl
    · exact ⟨1, rfl, by decide, by decide⟩
    · exact ⟨-1, rfl, by decide, by decide⟩
  refine pick_sp h2 (by omega) (by simp) (by simp) fun q hq m3 h3 => ?_
  obtain ⟨v, rfl, v0, v1⟩ := one q hq
  walk_at "w"
  rw [ixN_n u0 (by rw [List.length_map]; omega)]
  refine ⟨trivial, ?_⟩
  rw [ob_some, show truD (D.bl b) = some b from rfl, ob_some]
  have hset : ∀ (xs : List Int) (u : Int) (v : Int), -1000006 ≤ v → v ≤ 1000006 → (∀ x ∈ xs, -1000006 ≤ x ∧ x ≤ 1000006) → ∀ x ∈ xs.set u.toNat v, -1000006 ≤ x ∧ x ≤ 1000006 := by
    intro xs u v v0 v1 hx q hq
    rcases List.mem_or_eq_of_mem_set hq with hq | rfl
    · exact hx q hq
    · exact ⟨v0, v1⟩
  rw [show (xs.map D.int).set u.toNat (.int v) = (xs.set u.toNat v).map D.int by rw [List.map_set]]
  have hx2 := hset xs u v (by omega) (by omega) hx
  have hl2 : ((xs.set u.toNat v).length : Int) = d := by rw [List.length_set]; exact hl
  generalize xs.set u.toNat v = ys at hx2 hl2
  split
  · refine take_sp h3 (by omega) (by omega) fun r m4 h4 r0 r1 => ?_
    walk_at "w"
    refine ⟨modC_p (by omega), pick_sp h4 (by omega) (by simp) (by simp) fun q hq m5 h5 => ?_⟩
    obtain ⟨v2, rfl, w0, w1⟩ := one q hq
    walk_at "w"
    refine take_sp h5 (by omega) (by omega) fun r5 m6 h6 s0 s1 => ?_
    walk_at "w"
    have f0 : 0 ≤ (u + 1 + r).fmod d := fm0 (by omega)
    have f1 : (u + 1 + r).fmod d < d := fm1 (by omega)
    rw [ixN_n f0 (by rw [List.length_map]; omega)]
    refine ⟨lgM (a := 3) (b := 40) (lgB (by omega)) (lgB (by omega)), trivial, ?_⟩
    rw [ob_some]
    rw [show (ys.map D.int).set ((u + 1 + r).fmod d).toNat (.int (v2 * (1000000 + 1 + r5))) = (ys.set ((u + 1 + r).fmod d).toNat (v2 * (1000000 + 1 + r5))).map D.int by rw [List.map_set]]
    have b3 : -1000006 ≤ v2 * (1000000 + 1 + r5) ∧ v2 * (1000000 + 1 + r5) ≤ 1000006 := by
      rcases (by omega : v2 = -1 ∨ v2 = 0 ∨ v2 = 1) with rfl | rfl | rfl <;> omega
    exact hp _ _ (h6.mono (by omega)) (by rw [List.length_set]; exact hl2) (hset _ _ _ b3.1 b3.2 hx2)
  · exact hp _ _ (h3.mono (by omega)) hl2 hx2

theorem abs_e {a : Int} : (if a < 0 then -a else a) = (a.natAbs : Int) := by split <;> omega
theorem gcd_sp {a b : Int} {P : D → En → Prop} (hb : b.natAbs < 2 ^ 2000) (hp : P (.int (Nat.gcd a.natAbs b.natAbs : Nat)) [.dat (.int a), .dat (.int b)]) : sp XF F_w_gcd [.dat (.int a), .dat (.int b)] P := by
  unfold F_w_gcd
  refine sp_run ?_
  unfold b_w_gcd
  show wpB XF _ [.dat (.int a), .dat (.int b), .emp, .emp, .emp] _ _
  walk_at "w"
  rw [abs_e, abs_e]
  refine ⟨by decide, wb_forI (fun i ρ => ∃ (l r : Nat) (x : Sl), ρ = [.dat (.int a), .dat (.int b), .dat (.int l), .dat (.int r), x] ∧ Nat.gcd l r = Nat.gcd a.natAbs b.natAbs ∧ (i = 0 → r < 2 ^ 2000) ∧ (1 ≤ i → r < l ∧ l * r * 2 ^ (i - 1) < 2 ^ 4000)) _ 0 _ ⟨_, _, _, rfl, rfl, fun _ => hb, fun h => by omega⟩ ?_ ?_⟩
  · rintro i d ρ hi ⟨l, r, x, rfl, hg, hz, hs⟩
    walk_at "w"
    split
    · rename_i h0
      have h0 : r = 0 := by omega
      subst h0
      rw [Nat.gcd_zero_right] at hg
      rw [hg]
      exact hp
    · rename_i h0
      have hr : 0 < r := by omega
      refine ⟨decide_eq_true h0, r, l % r, .dat d, ?_, ?_, by omega, fun _ => ⟨Nat.mod_lt _ hr, ?_⟩⟩
      · rw [Int.fmod_eq_emod_of_nonneg _ (by omega)]
        rfl
      · rw [← hg, Nat.gcd_comm l r, Nat.gcd_rec r l, Nat.gcd_comm]
      · have hm := Nat.mod_lt l hr
        have hdm := Nat.div_add_mod l r
        rw [show 0 + i + 1 - 1 = i by omega]
        by_cases hi0 : i = 0
        · subst hi0
          have := hz rfl
          rw [Nat.pow_zero, Nat.mul_one]
          calc r * (l % r) ≤ r * r := Nat.mul_le_mul_left _ (by omega)
            _ < 2 ^ 2000 * 2 ^ 2000 := Nat.mul_lt_mul'' this this
            _ = 2 ^ 4000 := by rw [← Nat.pow_add]
        · obtain ⟨h1, h2⟩ := hs (by omega)
          have h3 : 2 * (l % r) ≤ l := by
            have : 1 ≤ l / r := Nat.div_pos (by omega) hr
            have : r * 1 ≤ r * (l / r) := Nat.mul_le_mul_left _ this
            omega
          rw [show 0 + i - 1 = i - 1 by omega] at h2
          calc r * (l % r) * 2 ^ i = r * (2 * (l % r)) * 2 ^ (i - 1) := by
                rw [show i = i - 1 + 1 by omega, Nat.pow_succ, Nat.add_sub_cancel]
                simp only [Nat.mul_comm, Nat.mul_left_comm, Nat.mul_assoc]
            _ ≤ r * l * 2 ^ (i - 1) := Nat.mul_le_mul_right _ (Nat.mul_le_mul_left _ h3)
            _ = l * r * 2 ^ (i - 1) := by rw [Nat.mul_comm r l]
            _ < 2 ^ 4000 := h2
  · rintro ρ ⟨l, r, x, rfl, hg, hz, hs⟩
    have hl : (rngL 0 1 (Int.toNat 4500)).length = 4500 := by simp [rngL]
    rw [hl] at hs
    obtain ⟨h1, h2⟩ := hs (by omega)
    have h0 : r = 0 := by
      refine Nat.eq_zero_of_not_pos fun hr => ?_
      have h4 : 1 * 2 ^ 4000 ≤ l * r * 2 ^ (0 + 4500 - 1) := Nat.mul_le_mul (Nat.mul_pos (by omega) hr) (Nat.pow_le_pow_right (by decide) (by decide))
      rw [Nat.one_mul] at h4
      exact Nat.lt_irrefl _ (Nat.lt_of_le_of_lt h4 h2)
    subst h0
    rw [Nat.gcd_zero_right] at hg
    walk_at "w"
    rw [hg]
    exact hp
/-- the greatest divisor of them all -/
def gcdL : List Int → Nat := List.foldl (fun g x => Nat.gcd g x.natAbs) 0
theorem content_sp {xs : List Int} {P : D → En → Prop} (hb : ∀ x ∈ xs, x.natAbs < 2 ^ 2000) (hp : ∀ as, P (.int (gcdL xs : Nat)) as) (d : D) (hd : seqD d = some (xs.map .int)) : sp XF F_w_content [.dat d] P := by
  unfold F_w_content
  refine sp_run ?_
  unfold b_w_content
  show wpB XF _ [.dat d, .emp, .emp] _ _
  walk_at "w"
  rw [hd, ob_some]
  refine wb_forI (fun i ρ => ∃ (g : Nat) (x : Sl), ρ = [.dat d, .dat (.int g), x] ∧ g = List.foldl (fun g x => Nat.gcd g x.natAbs) 0 (xs.take i)) _ 0 _ ⟨0, _, rfl, rfl⟩ ?_ ?_
  · rintro i z ρ hi ⟨g, x, rfl, hg⟩
    rw [List.getElem?_map] at hi
    cases e : xs[i]? with
    | none => rw [e] at hi; cases hi
    | some y =>
      rw [e] at hi
      cases hi
      have hy := List.mem_of_getElem? e
      walk_at "w"
      refine gcd_sp (hb y hy) ⟨_, _, rfl, ?_⟩
      rw [Nat.zero_add] at hg ⊢
      rw [List.take_succ, e, List.foldl_append, ← hg]
      rfl
  · rintro ρ ⟨g, x, rfl, hg⟩
    rw [Nat.zero_add, List.length_map, List.take_length] at hg
    subst hg
    walk_at "w"
    exact hp _
theorem gcdL_dvd_aux : ∀ (xs : List Int) (g : Nat), (List.foldl (fun g x => Nat.gcd g x.natAbs) g xs ∣ g) ∧ ∀ x ∈ xs, List.foldl (fun g x => Nat.gcd g x.natAbs) g xs ∣ x.natAbs
  | [], g => ⟨Nat.dvd_refl _, by simp⟩
  | x :: xs, g => by
    obtain ⟨h1, h2⟩ := gcdL_dvd_aux xs (Nat.gcd g x.natAbs)
    refine ⟨Nat.dvd_trans h1 (Nat.gcd_dvd_left _ _), fun y hy => ?_⟩
    rcases List.mem_cons.1 hy with rfl | hy
    · exact Nat.dvd_trans h1 (Nat.gcd_dvd_right _ _)
    · exact h2 y hy
theorem gcdL_dvd {xs : List Int} {x : Int} (h : x ∈ xs) : gcdL xs ∣ x.natAbs := (gcdL_dvd_aux xs 0).2 x h
theorem gcdL_zero {xs : List Int} (h : gcdL xs = 0) : ∀ x ∈ xs, x = 0 := fun x hx => by
  have := gcdL_dvd hx
  rw [h] at this
  have := Nat.eq_zero_of_zero_dvd this
  omega
theorem gcdL_lt_aux {k : Nat} : ∀ (xs : List Int) (g : Nat), g < 2 ^ k → (∀ x ∈ xs, x.natAbs < 2 ^ k) → List.foldl (fun g x => Nat.gcd g x.natAbs) g xs < 2 ^ k
  | [], g, h, _ => h
  | x :: xs, g, h, hx => by
    refine gcdL_lt_aux xs _ ?_ fun y hy => hx y (List.mem_cons_of_mem _ hy)
    by_cases hg : g = 0
    · subst hg
      show Nat.gcd 0 x.natAbs < _
      rw [Nat.gcd_zero_left]
      exact hx x List.mem_cons_self
    · exact Nat.lt_of_le_of_lt (Nat.le_of_dvd (by omega) (Nat.gcd_dvd_left _ _)) h
theorem gcdL_lt {k : Nat} {xs : List Int} (hx : ∀ x ∈ xs, x.natAbs < 2 ^ k) : gcdL xs < 2 ^ k := gcdL_lt_aux xs 0 (Nat.pow_pos (by decide)) hx
def primL (xs : List Int) : List Int := if gcdL xs = 0 then xs else xs.map fun x => x.fdiv (gcdL xs : Nat)
theorem prim_sp {xs : List Int} {P : D → En → Prop} (hb : ∀ x ∈ xs, x.natAbs < 2 ^ 2000) (hl : xs.length ≤ 900) (hp : ∀ as, P (.tup ((primL xs).map .int)) as) (d : D) (hd : seqD d = some (xs.map .int)) (ht : tupD d = some (.tup (xs.map .int))) : sp XF F_w_prim [.dat d] P := by
  have sz := sizeLine_ge
  unfold F_w_prim
  refine sp_run ?_
  unfold b_w_prim
  show wpB XF _ [.dat d, .emp, .emp] _ _
  walk_at "w"
  refine content_sp hb (fun as => ?_) d hd
  walk_at "w"
  have hq := hp
  unfold primL at hq
  split
  · rename_i h
    rw [if_pos (by omega)] at hq
    rw [ht, ob_some]
    exact hq _
  · rename_i h
    rw [if_neg (by omega)] at hq
    rw [hd, ob_some]
    refine ⟨by rw [List.length_map]; omega, ?_⟩
    refine wp_compP D.int (fun x => D.int (x.fdiv (gcdL xs : Nat))) xs (fun x hx => ?_) ?_
    · walk_at "w"
      exact ⟨divC_p (k := 2000) (by omega) (by rw [Int.natAbs_natCast]; exact gcdL_lt hb), trivial, trivial⟩
    · have := hq [.dat d]
      rw [List.map_map] at this
      exact this

theorem gcdL_div_aux (k : Nat) (hk : 0 < k) : ∀ (xs : List Int) (g : Nat), k ∣ g → (∀ x ∈ xs, k ∣ x.natAbs) → List.foldl (fun g x => Nat.gcd g x.natAbs) (g / k) (xs.map fun x => x.fdiv (k : Int)) = List.foldl (fun g x => Nat.gcd g x.natAbs) g xs / k
  | [], g, _, _ => rfl
  | x :: xs, g, hg, hx => by
    have h1 := hx x List.mem_cons_self
    have e : (x.fdiv (k : Int)).natAbs = x.natAbs / k := by
      rw [Int.fdiv_eq_ediv_of_nonneg _ (by omega)]
      rw [Int.natAbs_ediv_of_dvd (Int.ofNat_dvd_left.2 h1)]
      simp
    show List.foldl _ (Nat.gcd (g / k) (x.fdiv (k : Int)).natAbs) _ = List.foldl _ (Nat.gcd g x.natAbs) xs / k
    rw [e, Nat.gcd_div hg h1]
    exact gcdL_div_aux k hk xs _ (Nat.dvd_gcd hg h1) fun y hy => hx y (List.mem_cons_of_mem _ hy)
theorem gcdL_prim {xs : List Int} (h : gcdL xs ≠ 0) : gcdL (primL xs) = 1 := by
  unfold primL
  rw [if_neg h]
  have := gcdL_div_aux (gcdL xs) (by omega) xs 0 (Nat.dvd_zero _) fun x hx => gcdL_dvd hx
  rw [Nat.zero_div] at this
  exact this.trans (Nat.div_self (by show 0 < gcdL xs; omega))
theorem fdivB {x b : Int} {k : Nat} (hk : 0 < k) (h : -b ≤ x ∧ x ≤ b) (hd : k ∣ x.natAbs) : -b ≤ x.fdiv (k : Int) ∧ x.fdiv (k : Int) ≤ b := by
  have e : (x.fdiv (k : Int)).natAbs = x.natAbs / k := by
    rw [Int.fdiv_eq_ediv_of_nonneg _ (by omega), Int.natAbs_ediv_of_dvd (Int.ofNat_dvd_left.2 hd)]
    simp
  have := Nat.div_le_self x.natAbs k
  omega
theorem primB {xs : List Int} {b : Int} (h : ∀ x ∈ xs, -b ≤ x ∧ x ≤ b) : ∀ x ∈ primL xs, -b ≤ x ∧ x ≤ b := by
  unfold primL
  split
  · exact h
  · rename_i hz
    intro x hx
    obtain ⟨y, hy, rfl⟩ := List.mem_map.1 hx
    exact fdivB (by omega) (h y hy) (gcdL_dvd hy)
theorem prim_len {xs : List Int} : (primL xs).length = xs.length := by
  unfold primL
  split
  · rfl
  · rw [List.length_map]
theorem vector_sp {n d size : Int} {m : MO} {P : D → En → Prop} (hm : Sto n m) (hn : n ≤ 600000000) (hd : 1 ≤ d) (hd2 : d ≤ 6) (h1 : 1 ≤ size) (h2 : size ≤ 1000000)
    (hp : ∀ (xs : List Int) m', Sto (n + 22) m' → (xs.length : Int) = d → (∀ x ∈ xs, -size ≤ x ∧ x ≤ size) → gcdL xs = 1 → P (.tup (xs.map .int)) [.mu m', .dat (.int d), .dat (.int size)]) : sp XF F_w_vector [.mu m, .dat (.int d), .dat (.int size)] P := by
  unfold F_w_vector
  refine sp_run ?_
  unfold b_w_vector
  show wpB XF _ [.mu m, .dat (.int d), .dat (.int size), .emp] _ _
  walk_at "w"
  refine row_sp hm (by omega) hd hd2 h1 h2 fun xs m1 h3 hl hb => ?_
  walk_at "w"
  have big : ∀ xs : List Int, (∀ x ∈ xs, -size ≤ x ∧ x ≤ size) → ∀ x ∈ xs, x.natAbs < 2 ^ 2000 := by
    intro xs hb x hx
    have := hb x hx
    exact Nat.lt_of_lt_of_le (show x.natAbs < 2 ^ 40 by omega) (Nat.pow_le_pow_right (by decide) (by decide))
  refine content_sp (big xs hb) (fun as => ?_) _ rfl
  walk_at "w"
  refine ⟨rfl, ?_⟩
  split
  · rename_i hz
    refine pick_sp h3 (by omega) (by simp) (by simp) fun q hq m2 h4 => ?_
    walk_at "w"
    refine ⟨trivial, take_sp h4 (by omega) (by omega) fun r m3 h5 r0 r1 => ?_⟩
    walk_at "w"
    rw [ixN_n r0 (by rw [List.length_map]; omega), ob_some]
    have hq : ∃ v : Int, q = .int v ∧ (v = 1 ∨ v = -1) := by
      simp only [List.mem_cons, List.not_mem_nil, or_false] at hq
      rcases hq with rfl | rfl
      · exact ⟨1, rfl, .inl rfl⟩
      · exact ⟨-1, rfl, .inr rfl⟩
    obtain ⟨v, rfl, hv⟩ := hq
    rw [show (xs.map D.int).set r.toNat (.int v) = (xs.set r.toNat v).map D.int by rw [List.map_set]]
    have hb2 : ∀ x ∈ xs.set r.toNat v, -size ≤ x ∧ x ≤ size := by
      intro x hx
      rcases List.mem_or_eq_of_mem_set hx with hx | rfl
      · exact hb x hx
      · omega
    have hmem : v ∈ xs.set r.toNat v := List.mem_set (by omega) _
    have hg := gcdL_dvd hmem
    refine prim_sp (big _ hb2) (by rw [List.length_set]; omega) (fun as => hp _ _ (h5.mono (by omega)) (by rw [prim_len, List.length_set]; exact hl) (primB hb2) (gcdL_prim fun h0 => ?_)) _ rfl rfl
    rw [h0] at hg
    have := Nat.eq_zero_of_zero_dvd hg
    omega
  · rename_i hz
    exact prim_sp (big _ hb) (by omega) (fun as => hp _ _ (h3.mono (by omega)) (by rw [prim_len]; exact hl) (primB hb) (gcdL_prim (by omega))) _ rfl rfl

/-- times a number, each of a row -/
theorem times_sp {t : Int} {xs : List Int} {m : MO} {d c x : Sl} {B : Int} {N : List D → En → Prop} (hx : ∀ x ∈ xs, -B ≤ x ∧ x ≤ B) (hB : B ≤ 1000000000000) (ht : t.natAbs < 2 ^ 200)
    (hn : N ((xs.map fun x => t * x).map .int) [.mu m, d, c, .dat (.int t), x, .emp]) : wpM XF (compD (.nm 5) (ret true) (opv [.nm 3, .nm 5] (o2 mulD)) [5] (xs.map .int)) [.mu m, d, c, .dat (.int t), x, .emp] N := by
  refine wp_compP D.int (fun x => D.int (t * x)) xs (fun x hx' => ?_) ?_
  · have := hx x hx'
    walk_at "w"
    exact ⟨lgM (a := 200) (b := 60) (lgB ht) (lgB (by omega)), trivial, trivial⟩
  · rw [List.map_map] at hn
    exact hn
theorem ite2 {a b : Prop} [Decidable a] [Decidable b] {p q : Prop} (h1 : a → b → p) (h2 : q) : if a then (if b then p else q) else (if false = true then p else q) := by
  by_cases ha : a
  · rw [if_pos ha]
    by_cases hb : b
    · rw [if_pos hb]; exact h1 ha hb
    · rw [if_neg hb]; exact h2
  · rw [if_neg ha, if_neg (by simp)]; exact h2
theorem built_sp {n d : Int} {m : MO} {P : D → En → Prop} (hm : Sto n m) (hn : n ≤ 500000000) (hd : 1 ≤ d) (hd2 : d ≤ 6)
    (hp : ∀ (xs : List Int) m', Sto (n + 60) m' → (xs.length : Int) = d → (∀ x ∈ xs, -10000000000000000000000000000000 ≤ x ∧ x ≤ 10000000000000000000000000000000) → P (.tup (xs.map .int)) [.mu m', .dat (.int d)]) : sp XF F_w_built [.mu m, .dat (.int d)] P := by
  have sz := sizeLine_ge
  unfold F_w_built
  refine sp_run ?_
  unfold b_w_built
  show wpB XF _ [.mu m, .dat (.int d), .emp, .emp, .emp, .emp] _ _
  walk_at "w"
  refine take_sp hm (by omega) (by omega) fun c m1 h1 c0 c1 => ?_
  have wk : ∀ {b : Int} {xs : List Int}, b ≤ 10000000000000000000000000000000 → (∀ x ∈ xs, -b ≤ x ∧ x ≤ b) → ∀ x ∈ xs, -10000000000000000000000000000000 ≤ x ∧ x ≤ 10000000000000000000000000000000 := by
    intro b xs hb h x hx
    have := h x hx
    omega
  have tm : ∀ (t B : Int) (xs : List Int) (m' : MO), 0 ≤ t → 0 ≤ B → t * B ≤ 10000000000000000000000000000000 → (xs.length : Int) = d → (∀ x ∈ xs, -B ≤ x ∧ x ≤ B) → Sto (n + 60) m' → P (.tup ((xs.map fun x => t * x).map .int)) [.mu m', .dat (.int d)] := by
    intro t B xs m' t0 B0 hB hl hx hm
    refine hp _ _ hm (by rw [List.length_map]; exact hl) fun y hy => ?_
    obtain ⟨x, hx', rfl⟩ := List.mem_map.1 hy
    obtain ⟨h1, h2⟩ := hx x hx'
    have e1 : t * x ≤ t * B := Int.mul_le_mul_of_nonneg_left h2 t0
    have e2 : t * -B ≤ t * x := Int.mul_le_mul_of_nonneg_left h1 t0
    rw [Int.mul_neg] at e2
    omega
  walk_at "w"
  split
  · refine row_sp h1 (by omega) hd hd2 (by omega) (by omega) fun xs m2 h2 hl hb => ?_
    walk_at "w"
    exact hp _ _ (h2.mono (by omega)) hl (wk (b := 9) (by decide) hb)
  split
  · refine pick_sp h1 (by omega) (by simp) (by simp) fun q hq m2 h2 => ?_
    simp only [List.mem_cons, List.not_mem_nil, or_false] at hq
    have hq : ∃ t : Int, q = .int t ∧ 0 ≤ t ∧ t ≤ 100000000000000000000000000000 := by
      rcases hq with rfl | rfl | rfl | rfl | rfl | rfl | rfl <;> exact ⟨_, rfl, by decide, by decide⟩
    obtain ⟨t, rfl, t0, t1⟩ := hq
    walk_at "w"
    refine vector_sp h2 (by omega) hd hd2 (by omega) (by omega) fun xs m3 h3 hl hb hg => ?_
    walk_at "w"
    refine ⟨by rw [List.length_map]; omega, times_sp hb (by decide) (by omega) ?_⟩
    walk_at "w"
    exact tm t 5 xs m3 t0 (by decide) (by omega) hl hb (h3.mono (by omega))
  split
  · refine great_sp h1 (by omega) hd hd2 (by simp) fun xs m2 h2 hl hb => ?_
    walk_at "w"
    exact hp _ _ (h2.mono (by omega)) hl (wk (b := 1000006) (by decide) hb)
  have g4 : ∀ b : Bool, (b = true → 2 ≤ d) → sp XF F_w_great_vector [.mu m1, .dat (.int d), .dat (.bl b)] fun e as => muQ as fun m' => P e [.mu m', .dat (.int d)] := by
    intro b hb
    refine great_sp h1 (by omega) hd hd2 hb fun xs m2 h2 hl hb => ?_
    exact hp _ _ (h2.mono (by omega)) hl (wk (b := 1000006) (by decide) hb)
  refine ite2 (fun h4 hd' => g4 true fun _ => by omega) ?_
  split
  · refine pick_sp h1 (by omega) (by simp) (by simp) fun q hq m2 h2 => ?_
    simp only [List.mem_cons, List.not_mem_nil, or_false] at hq
    have hq : ∃ t : Int, q = .int t ∧ 0 ≤ t ∧ t ≤ 1000000000000000009 := by
      rcases hq with rfl | rfl | rfl | rfl <;> exact ⟨_, rfl, by decide, by decide⟩
    obtain ⟨t, rfl, t0, t1⟩ := hq
    walk_at "w"
    refine great_sp h2 (by omega) hd hd2 (by simp) fun xs m3 h3 hl hb => ?_
    walk_at "w"
    refine ⟨by rw [List.length_map]; omega, times_sp hb (by decide) (by omega) ?_⟩
    walk_at "w"
    exact tm t 1000006 xs m3 t0 (by decide) (by omega) hl hb (h3.mono (by omega))
  split
  · refine vector_sp h1 (by omega) hd hd2 (by omega) (by omega) fun xs m2 h2 hl hb _ => ?_
    walk_at "w"
    exact hp _ _ (h2.mono (by omega)) hl (wk (b := 9) (by decide) hb)
  have lr : (rngL 0 1 d.toNat).length = d.toNat := by simp [rngL]
  refine ⟨by omega, by rw [lr]; omega, ?_⟩
  refine wp_compI (fun k pre ρ => ∃ m' xs, pre = List.map D.int xs ∧ xs.length = k ∧ (∀ x ∈ xs, -10000000000000000000000000000000 ≤ x ∧ x ≤ 10000000000000000000000000000000) ∧ ρ = [.mu m', .dat (.int d), .dat (.int c), .emp, .emp, .emp] ∧ Sto (n + 1 + 7 * k) m') _ 0 [] _ ⟨m1, [], rfl, rfl, by simp, rfl, h1.mono (by omega)⟩ ?_ ?_
  · rintro i x pre ρ hi ⟨m3, xs, rfl, hl, hb, rfl, h3⟩
    obtain ⟨rfl, hk⟩ := rng_get hi
    rw [asg_nm]
    dsimp only
    walk_at "w"
    refine number_sp h3 (by omega) fun r m4 h4 r0 r1 => ?_
    walk_at "w"
    refine ⟨_, xs ++ [r], by simp, by simp; omega, ?_, rfl, h4.mono (by omega)⟩
    intro y hy
    rcases List.mem_append.1 hy with hy | hy
    · exact hb y hy
    · cases List.mem_singleton.1 hy
      omega
  · rintro es ρ ⟨m3, xs, e, hl, hb, rfl, h3⟩
    rw [List.nil_append] at e
    subst e
    walk_at "w"
    rw [lr] at hl h3
    exact hp _ _ (h3.mono (by omega)) (by omega) hb

theorem get_toNat {xs : List D} {r : Int} {k : Nat} (r0 : 0 ≤ r) (r1 : r < k) (h : k ≤ xs.length) : ∃ x, xs[r.toNat]? = some x := by
  rw [List.getElem?_eq_getElem (by omega)]
  exact ⟨_, rfl⟩
theorem mixed_sp {n : Int} {m : MO} {xs : List D} {P : D → En → Prop} (hm : Sto n m) (hn : n ≤ 700000000) (hl : xs.length ≤ 1000000)
    (hp : ∀ ys m', ys.Perm xs → Sto (n + xs.length) m' → P (.lst ys) [.mu m', .dat (.lst xs)]) : sp XF F_w_mixed [.mu m, .dat (.lst xs)] P := by
  unfold F_w_mixed
  refine sp_run ?_
  unfold b_w_mixed
  show wpB XF _ [.mu m, .dat (.lst xs), .emp, .emp, .emp] _ _
  walk_at "v"
  refine ⟨by omega, wb_forL _ (fun i ρ => ∃ m' ys x3 x4, ρ = [.mu m', .dat (.lst xs), .own (.lst ys), x3, x4] ∧ ys.Perm xs ∧ Sto (n + i) m') ⟨m, xs, _, _, rfl, List.Perm.refl _, hm.mono (by omega)⟩ ?_ ?_⟩
  · rintro i d ρ hi ⟨m1, ys, x3, x4, rfl, hy, h1⟩
    obtain ⟨hk, rfl⟩ := rngL_get hi
    have hl2 := hy.length_eq
    rw [asg_nm, ob_some]
    walk_at "v"
    refine take_sp h1 (by omega) (by omega) fun r m2 h2 r0 r1 => ?_
    walk_at "v"
    have e1 : (xs.length : Int) - 1 + i * -1 = ((xs.length - 1 - i : Nat) : Int) := by omega
    rw [e1] at r1 ⊢
    obtain ⟨k, rfl⟩ := Int.eq_ofNat_of_zero_le r0
    have hk1 : k < ys.length := by omega
    have hk2 : xs.length - 1 - i < ys.length := by omega
    rw [at_g (List.getElem?_eq_getElem hk1), at_g (List.getElem?_eq_getElem hk2)]
    walk_at "v"
    rw [ixN_n (by omega) (by omega)]
    walk_at "v"
    rw [ixN_n (by omega) (by rw [List.length_set]; omega)]
    walk_at "v"
    exact ⟨m2, _, _, _, rfl, (List.set_set_perm hk2 hk1).trans hy, h2.mono (by omega)⟩
  · rintro ρ ⟨m1, ys, x3, x4, rfl, hy, h1⟩
    walk_at "v"
    refine hp ys m1 hy (h1.mono ?_)
    simp [rngL]
    try omega
/-- an entry that is told as it is, or a tuple told as a list -/
inductive Dr : D → D → Prop
  | same (d : D) : Dr d d
  | un (ds : List D) : Dr (.tup ds) (.lst ds)
/-- a row of such entries, a list or a tuple -/
def DrT (t t' : D) : Prop := ∃ es es', seqD t = some es ∧ A2 Dr es es' ∧ (t' = .lst es' ∨ t' = .tup es')
theorem dressed_sp {n : Int} {m : MO} {ts : List D} {P : D → En → Prop} (hm : Sto n m) (hn : n ≤ 700000000) (hl : ts.length ≤ 1000)
    (ht : ∀ t ∈ ts, ∃ es, seqD t = some es ∧ es.length ≤ 70 ∧ ∀ e ∈ es, ∃ b, isiB cs .tup e = some b ∧ (b = true → ∃ ds, e = .tup ds))
    (hp : ∀ ys m', A2 DrT ts ys → Sto (n + 72 * ts.length) m' → P (.lst ys) [.mu m', .dat (.lst ts)]) : sp XF F_w_dressed [.mu m, .dat (.lst ts)] P := by
  have sz := sizeLine_ge
  unfold F_w_dressed
  refine sp_run ?_
  unfold b_w_dressed
  show wpB XF _ [.mu m, .dat (.lst ts), .emp, .emp, .emp, .emp] _ _
  walk_at "v"
  refine wb_forL _ (fun i ρ => ∃ m' ys x3 x4 x5, ρ = [.mu m', .dat (.lst ts), .own (.lst ys), x3, x4, x5] ∧ A2 DrT (ts.take i) ys ∧ Sto (n + 72 * i) m') ⟨m, [], _, _, _, rfl, .nil, hm.mono (by omega)⟩ ?_ ?_
  · rintro i t ρ hi ⟨m1, ys, x3, x4, x5, rfl, hy, h1⟩
    have hi2 : i < ts.length := by
      rcases Nat.lt_or_ge i ts.length with q | q
      · exact q
      · rw [List.getElem?_eq_none q] at hi; cases hi
    obtain ⟨es, he, hel, hes⟩ := ht t (List.mem_of_getElem? hi)
    have hyl := hy.len
    rw [List.length_take] at hyl
    rw [asg_nm, ob_some]
    walk_at "v"
    rw [he, ob_some]
    refine wb_forL _ (fun j ρ => ∃ m' zs x5, ρ = [.mu m', .dat (.lst ts), .own (.lst ys), .dat t, .own (.lst zs), x5] ∧ A2 Dr (es.take j) zs ∧ Sto (n + 72 * i + j) m') ⟨m1, [], _, rfl, .nil, h1.mono (by omega)⟩ ?_ ?_
    · rintro j e ρ hj ⟨m2, zs, x5, rfl, hz, h2⟩
      have hj2 : j < es.length := by
        rcases Nat.lt_or_ge j es.length with q | q
        · exact q
        · rw [List.getElem?_eq_none q] at hj; cases hj
      obtain ⟨b, hb, hb2⟩ := hes e (List.mem_of_getElem? hj)
      have hzl := hz.len
      rw [List.length_take] at hzl
      have fin : ∀ e' m' k, Dr e e' → Sto k m' → k ≤ n + 72 * i + (j + 1) → ∃ m'' zs' x5, [Sl.mu m', .dat (.lst ts), .own (.lst ys), .dat t, .own (.lst (zs ++ [e'])), .dat e'] = [.mu m'', .dat (.lst ts), .own (.lst ys), .dat t, .own (.lst zs'), x5] ∧ A2 Dr (es.take (j + 1)) zs' ∧ Sto (n + 72 * i + (j + 1 : Nat)) m'' := by
        intro e' m' k hd hm hk
        refine ⟨m', _, _, rfl, ?_, hm.mono (by omega)⟩
        rw [List.take_succ, hj]
        exact hz.app (.one hd)
      rw [asg_nm, ob_some]
      walk_at "v"
      rw [hb, ob_some]
      have hzz : zs.length < sizeLine := by omega
      cases b with
      | false =>
        rw [if_neg (by simp)]
        exact ⟨hzz, fin e m2 _ (.same e) h2 (by omega)⟩
      | true =>
        obtain ⟨ds, rfl⟩ := hb2 rfl
        rw [if_pos rfl]
        refine take_sp h2 (by omega) (by omega) fun r m3 h3 r0 r1 => ?_
        walk_at "v"
        split
        · exact ⟨hzz, fin _ m3 _ (.un ds) h3 (by omega)⟩
        · exact ⟨hzz, fin _ m3 _ (.same _) h3 (by omega)⟩
    · rintro ρ ⟨m2, zs, x5, rfl, hz, h2⟩
      rw [List.take_length] at hz
      have hyy : ys.length < sizeLine := by omega
      have fin : ∀ e' m' k x4 x5, DrT t e' → Sto k m' → k ≤ n + 72 * (i + 1) → ∃ m'' ys' x3' x4' x5', [Sl.mu m', .dat (.lst ts), .own (.lst (ys ++ [e'])), .dat t, x4, x5] = [.mu m'', .dat (.lst ts), .own (.lst ys'), x3', x4', x5'] ∧ A2 DrT (ts.take (i + 1)) ys' ∧ Sto (n + 72 * (i + 1 : Nat)) m'' := by
        intro e' m' k x4 x5 hd hm hk
        refine ⟨m', _, _, _, _, rfl, ?_, hm.mono (by omega)⟩
        rw [List.take_succ, hi]
        exact hy.app (.one hd)
      walk_at "v"
      refine take_sp h2 (by omega) (by omega) fun r m3 h3 r0 r1 => ?_
      walk_at "v"
      split
      · exact ⟨hyy, fin _ m3 _ _ _ ⟨es, zs, he, hz, .inr rfl⟩ h3 (by omega)⟩
      · exact ⟨hyy, fin _ m3 _ _ _ ⟨es, zs, he, hz, .inl rfl⟩ h3 (by omega)⟩
  · rintro ρ ⟨m1, ys, x3, x4, x5, rfl, hy, h1⟩
    rw [List.take_length] at hy
    walk_at "v"
    exact hp ys m1 hy h1

section
variable {X : XP}
theorem common_sp {a b : Nat} {P : D → En → Prop} (hp : ∀ as, P (.int (Nat.gcd a b : Nat)) as) : sp X F_p_common_vectors [.dat (.int a), .dat (.int b)] P := by
  unfold F_p_common_vectors
  refine sp_runX (fun _ => rfl) ?_
  unfold b_p_common_vectors
  show wpB X _ [.dat (.int a), .dat (.int b)] _ _
  rw [wb_seq]
  refine wb_while (fun n ρ => ∃ l r : Nat, ρ = [.dat (.int l), .dat (.int r)] ∧ Nat.gcd l r = Nat.gcd a b ∧ n = r) ⟨b, by simp [fuelE]; omega, a, b, rfl, rfl, rfl⟩ ?_
  rintro n ρ ⟨l, r, rfl, hg, rfl⟩
  walk_at "v"
  by_cases h : n = 0
  · subst h
    rw [if_neg (by simp)]
    rw [Nat.gcd_zero_right] at hg
    rw [hg]
    exact hp _
  · rw [if_pos (by simp; omega)]
    refine ⟨decide_eq_true (by omega), l % n, Nat.mod_lt _ (by omega), n, l % n, ?_, ?_, rfl⟩
    · rw [Int.fmod_eq_emod_of_nonneg _ (by omega)]
      rfl
    · rw [← hg, Nat.gcd_comm l n, Nat.gcd_rec n l, Nat.gcd_comm]
theorem gcdL_one : ∀ xs : List Int, List.foldl (fun g x => Nat.gcd g x.natAbs) 1 xs = 1
  | [] => rfl
  | x :: xs => by
    show List.foldl _ (Nat.gcd 1 x.natAbs) xs = 1
    rw [Nat.gcd_one_left]
    exact gcdL_one xs
theorem divisor_sp {xs : List Int} {d : D} {P : D → En → Prop} (hd : seqD d = some (xs.map .int)) (hp : ∀ as, P (.int (gcdL xs : Nat)) as) : sp X F_p_divisor [.dat d] P := by
  unfold F_p_divisor
  refine sp_runX (fun _ => rfl) ?_
  unfold b_p_divisor
  show wpB X _ [.dat d, .emp, .emp] _ _
  walk_at "v"
  rw [hd, ob_some]
  refine wb_forM D.int xs (fun i ρ => ∃ (g : Nat) (x : Sl), ρ = [.dat d, .dat (.int g), x] ∧ g = List.foldl (fun g x => Nat.gcd g x.natAbs) 0 (xs.take i)) ⟨0, _, rfl, rfl⟩ ?_ ?_
  · rintro i y ρ hi ⟨g, x, rfl, hg⟩
    rw [asg_nm, ob_some]
    walk_at "v"
    rw [abs_e]
    refine common_sp fun as => ?_
    have e : Nat.gcd g y.natAbs = List.foldl (fun g x => Nat.gcd g x.natAbs) 0 (xs.take (i + 1)) := by
      rw [List.take_succ, hi, List.foldl_append, ← hg]
      rfl
    walk_at "v"
    split
    · rename_i h1
      have e2 : gcdL xs = 1 := by
        unfold gcdL
        rw [← List.take_append_drop (i + 1) xs, List.foldl_append, ← e, show Nat.gcd g y.natAbs = 1 by omega]
        exact gcdL_one _
      have := hp [.dat d]
      rw [e2] at this
      exact this
    · exact ⟨_, _, rfl, e⟩
  · rintro ρ ⟨g, x, rfl, hg⟩
    rw [List.take_length] at hg
    subst hg
    walk_at "v"
    exact hp _
theorem check_row_sp {n : Nat} {d : D} {P : D → En → Prop} (hd : lenD d = some (.int n)) (hp : 1 ≤ n → n ≤ 4 → ∀ as, P .non as) (hx : (n < 1 ∨ 4 < n) → X "BadCall" ["why"] [.str "dim"]) : sp X F_p_check_row [.dat d] P := by
  unfold F_p_check_row
  refine sp_runX (fun _ => rfl) ?_
  unfold b_p_check_row
  show wpB X _ [.dat d] _ _
  walk_at "v"
  rw [hd, ob_some]
  walk_at "v"
  by_cases h1 : 1 ≤ n
  · rw [if_pos (by omega)]
    by_cases h2 : n ≤ 4
    · rw [if_neg (by omega)]
      exact hp h1 h2 _
    · rw [if_pos (by omega)]
      exact ⟨rfl, hx (.inr (by omega))⟩
  · rw [if_neg (by omega)]
    exact ⟨rfl, hx (.inl (by omega))⟩
/-- how long a row is -/
def lnD : D → Nat
  | .lst xs => xs.length
  | .tup xs => xs.length
  | _ => 0
def isRow (d : D) : Prop := lenD d = some (.int (lnD d))
theorem check_rows_sp {rs : List D} {d : D} {P : D → En → Prop} (hd : d = .lst rs ∨ d = .tup rs) (hr : ∀ r ∈ rs, isRow r)
    (hp : (∀ r ∈ rs, 1 ≤ lnD r ∧ lnD r ≤ 4 ∧ ∀ r0, rs[0]? = some r0 → lnD r = lnD r0) → ∀ as, P .non as)
    (hx : ((∃ r ∈ rs, lnD r < 1 ∨ 4 < lnD r) ∨ ∃ r ∈ rs, ∃ r0 ∈ rs, lnD r ≠ lnD r0) → X "BadCall" ["why"] [.str "dim"]) : sp X F_p_check_rows [.dat d] P := by
  have hs : seqD d = some rs := by rcases hd with rfl | rfl <;> rfl
  have hix : ∀ k : Int, ixD d (.int k) = atI rs k := by rcases hd with rfl | rfl <;> intro k <;> rfl
  unfold F_p_check_rows
  refine sp_runX (fun _ => rfl) ?_
  unfold b_p_check_rows
  show wpB X _ [.dat d, .emp] _ _
  walk_at "v"
  rw [hs, ob_some]
  refine wb_forL rs (fun i ρ => ∃ x, ρ = [.dat d, x] ∧ ∀ r ∈ rs.take i, 1 ≤ lnD r ∧ lnD r ≤ 4 ∧ ∀ r0, rs[0]? = some r0 → lnD r = lnD r0) ⟨_, rfl, by simp⟩ ?_ ?_
  · rintro i r ρ hi ⟨x, rfl, h⟩
    have hm := List.mem_of_getElem? hi
    rw [asg_nm, ob_some]
    walk_at "v"
    refine check_row_sp (hr r hm) (fun h1 h2 as => ?_) (fun h => hx (.inl ⟨r, hm, h⟩))
    rw [hr r hm, ob_some, hix]
    have h0 : ∃ r0, rs[0]? = some r0 := by
      cases rs with
      | nil => cases hm
      | cons r0 _ => exact ⟨r0, rfl⟩
    obtain ⟨r0, h0⟩ := h0
    rw [show atI rs 0 = some r0 from at_g h0, ob_some, hr r0 (List.mem_of_getElem? h0), ob_some]
    walk_at "v"
    split
    · rename_i q
      exact ⟨rfl, hx (.inr ⟨r, hm, r0, List.mem_of_getElem? h0, by omega⟩)⟩
    · rename_i q
      refine ⟨_, rfl, fun r' hr' => ?_⟩
      rw [List.take_succ, hi] at hr'
      rcases List.mem_append.1 hr' with hr' | hr'
      · exact h r' hr'
      · cases List.mem_singleton.1 hr'
        refine ⟨h1, h2, fun r1 e => ?_⟩
        cases h0.symm.trans e
        omega
  · rintro ρ ⟨x, rfl, h⟩
    rw [List.take_length] at h
    exact hp h _
theorem primitive_sp {xs : List Int} {d : D} {P : D → En → Prop} (hd : d = .lst (xs.map .int) ∨ d = .tup (xs.map .int)) (hb : ∀ x ∈ xs, x.natAbs < 2 ^ 2000)
    (hx1 : (xs.length < 1 ∨ 4 < xs.length) → X "BadCall" ["why"] [.str "dim"]) (hx2 : 1 ≤ xs.length → xs.length ≤ 4 → gcdL xs = 0 → X "BadVector" ["why"] [.str "zero"])
    (hp : 1 ≤ xs.length → xs.length ≤ 4 → gcdL xs ≠ 0 → ∀ as, P (.tup ((primL xs).map .int)) as) : sp X F_p_primitive [.dat d] P := by
  have sz := sizeLine_ge
  have hs : seqD d = some (xs.map .int) := by rcases hd with rfl | rfl <;> rfl
  have hl : lenD d = some (.int xs.length) := by rcases hd with rfl | rfl <;> simp only [len_l, len_t, List.length_map]
  unfold F_p_primitive
  refine sp_runX (fun _ => rfl) ?_
  unfold b_p_primitive
  show wpB X _ [.dat d, .emp, .emp] _ _
  walk_at "v"
  refine check_row_sp hl (fun h1 h2 as => divisor_sp hs fun as => ?_) hx1
  walk_at "v"
  have hp := hp h1 h2
  unfold primL at hp
  split
  · rename_i h
    exact ⟨rfl, hx2 h1 h2 (by omega)⟩
  · rename_i h
    rw [if_neg (by omega)] at hp
    rw [hs, ob_some]
    refine ⟨by rw [List.length_map]; omega, ?_⟩
    refine wp_compP D.int (fun x => D.int (x.fdiv (gcdL xs : Nat))) xs (fun x hx => ?_) ?_
    · walk_at "v"
      exact divC_p (k := 2000) (by omega) (by rw [Int.natAbs_natCast]; exact gcdL_lt hb)
    · have := hp (by omega) [.dat d]
      rw [List.map_map] at this
      exact this
def negL (xs : List Int) : List Int := xs.map fun x => -x
theorem neg_comp {i : Nat} {ρ : En} {xs : List Int} {Q : List D → En → Prop} (h0 : ∀ d, rdS (ρ.set i (.dat d)) i = some d) (h1 : ∀ d, wipeE (ρ.set i (.dat d)) [i] = ρ) (hq : Q ((negL xs).map .int) ρ) : wpM XF (compD (.nm i) (ret true) (opv [.nm i] (o1 negD)) [i] (xs.map .int)) ρ Q := by
  refine wp_compP D.int (fun x => D.int (-x)) xs (fun x hx => ?_) ?_
  · simp only [wp_opv, wp_evsC, wp_evs0, wq_nm, wq_opx, h0, ob_some, rdsL, rds0, o1_1, neg_i]
    exact ⟨trivial, h1 _⟩
  · unfold negL at hq
    rw [List.map_map] at hq
    exact hq
def upL : List Int → List Int → List Int
  | all, [] => all
  | all, x :: xs => if 0 < x then all else if x < 0 then negL all else upL all xs
theorem upL_cons {all xs : List Int} {x : Int} : upL all (x :: xs) = if 0 < x then all else if x < 0 then negL all else upL all xs := rfl
theorem turned_up_sp {xs : List Int} {d : D} {P : D → En → Prop} (hd : d = .lst (xs.map .int) ∨ d = .tup (xs.map .int)) (hl : xs.length ≤ 900) (hp : ∀ as, P (.tup ((upL xs xs).map .int)) as) : sp X F_p_turned_up [.dat d] P := by
  have sz := sizeLine_ge
  have hs : seqD d = some (xs.map .int) := by rcases hd with rfl | rfl <;> rfl
  have ht : tupD d = some (.tup (xs.map .int)) := by rcases hd with rfl | rfl <;> rfl
  unfold F_p_turned_up
  refine sp_runX (fun _ => rfl) ?_
  unfold b_p_turned_up
  show wpB X _ [.dat d, .emp, .emp] _ _
  walk_at "v"
  rw [hs, ob_some]
  refine wb_forM D.int xs (fun i ρ => ∃ x, ρ = [.dat d, x, .emp] ∧ upL xs xs = upL xs (xs.drop i)) ⟨_, rfl, rfl⟩ ?_ ?_
  · rintro i y ρ hi ⟨x, rfl, h⟩
    have e : xs.drop i = y :: xs.drop (i + 1) := by
      have hi2 : i < xs.length := by
        rcases Nat.lt_or_ge i xs.length with q | q
        · exact q
        · rw [List.getElem?_eq_none q] at hi; cases hi
      rw [List.getElem?_eq_getElem hi2] at hi
      cases hi
      exact List.drop_eq_getElem_cons hi2
    rw [asg_nm, ob_some]
    walk_at "v"
    rw [e] at h
    rw [h] at hp
    rw [upL_cons] at hp h
    split
    · rename_i q
      rw [if_pos q] at hp
      rw [ht, ob_some]
      exact hp _
    · rename_i q
      rw [if_neg q] at hp h
      split
      · rename_i q2
        rw [if_pos q2] at hp
        rw [hs, ob_some]
        refine ⟨by rw [List.length_map]; omega, neg_comp (fun _ => rfl) (fun _ => rfl) ?_⟩
        exact hp _
      · rename_i q2
        rw [if_neg q2] at h
        exact ⟨_, rfl, h⟩
  · rintro ρ ⟨x, rfl, h⟩
    rw [List.drop_length] at h
    rw [h] at hp
    walk_at "v"
    rw [ht, ob_some]
    exact hp _
theorem upright_sp {xs : List Int} {d : D} {P : D → En → Prop} (hd : d = .lst (xs.map .int) ∨ d = .tup (xs.map .int)) (hb : ∀ x ∈ xs, x.natAbs < 2 ^ 2000)
    (hx1 : (xs.length < 1 ∨ 4 < xs.length) → X "BadCall" ["why"] [.str "dim"]) (hx2 : 1 ≤ xs.length → xs.length ≤ 4 → gcdL xs = 0 → X "BadVector" ["why"] [.str "zero"])
    (hp : 1 ≤ xs.length → xs.length ≤ 4 → gcdL xs ≠ 0 → ∀ as, P (.tup ((upL (primL xs) (primL xs)).map .int)) as) : sp X F_p_upright [.dat d] P := by
  unfold F_p_upright
  refine sp_runX (fun _ => rfl) ?_
  unfold b_p_upright
  show wpB X _ [.dat d] _ _
  walk_at "v"
  exact primitive_sp hd hb hx1 hx2 fun h1 h2 h3 as => turned_up_sp (.inr rfl) (by rw [prim_len]; omega) fun as => hp h1 h2 h3 _
theorem contrary_sp {xs : List Int} {d : D} {P : D → En → Prop} (hd : d = .lst (xs.map .int) ∨ d = .tup (xs.map .int)) (hl : xs.length ≤ 900)
    (hx1 : (xs.length < 1 ∨ 4 < xs.length) → X "BadCall" ["why"] [.str "dim"])
    (hp : 1 ≤ xs.length → xs.length ≤ 4 → ∀ as, P (.tup ((negL xs).map .int)) as) : sp X F_p_contrary [.dat d] P := by
  have sz := sizeLine_ge
  have hs : seqD d = some (xs.map .int) := by rcases hd with rfl | rfl <;> rfl
  have hln : lenD d = some (.int xs.length) := by rcases hd with rfl | rfl <;> simp only [len_l, len_t, List.length_map]
  unfold F_p_contrary
  refine sp_runX (fun _ => rfl) ?_
  unfold b_p_contrary
  show wpB X _ [.dat d, .emp] _ _
  walk_at "v"
  refine check_row_sp hln (fun h1 h2 as => ?_) hx1
  rw [hs, ob_some]
  refine ⟨by rw [List.length_map]; omega, neg_comp (fun _ => rfl) (fun _ => rfl) ?_⟩
  exact hp h1 h2 _
end

theorem wp_compT {γ : Type} {tg : Tg} {elt : M D} {vs : List Nat} {ρ0 : En} (f g : γ → D) : ∀ (xs : List γ) {Q : List D → En → Prop}, (∀ x ∈ xs, oQ (asgT tg (f x) ρ0) fun ρ1 => wpM XF elt ρ1 fun e ρ2 => e = g x ∧ wipeE ρ2 vs = ρ0) → Q (xs.map g) ρ0 → wpM XF (compD tg (ret true) elt vs (xs.map f)) ρ0 Q
  | [], Q, h, hq => hq
  | x :: xs, Q, h, hq => by
    rw [List.map_cons, wp_compC]
    have h1 := h x List.mem_cons_self
    cases e : asgT tg (f x) ρ0 with
    | none => rw [e] at h1; exact h1
    | some ρ1 =>
      rw [e] at h1
      show wpM XF (ret true) _ _
      rw [wp_ret, if_pos rfl]
      refine wp_imp h1 ?_
      rintro e ρ2 ⟨rfl, hw⟩
      rw [hw]
      exact wp_compT f g xs (Q := fun es ρ4 => Q (g x :: es) ρ4) (fun y hy => h y (List.mem_cons_of_mem _ hy)) hq
theorem zip_ints {a b : List Int} : zipD (a.map .int) (b.map .int) = (a.zip b).map fun p => .tup [.int p.1, .int p.2] := by
  unfold zipD
  rw [List.zip_map, List.map_map]
  rfl
theorem ints_of : ∀ xs : List Int, intsOf (xs.map .int) = some xs
  | [] => rfl
  | x :: xs => by
    have := ints_of xs
    rw [List.map_cons]
    unfold intsOf
    rw [this]
    try rfl
theorem sum_i {xs : List Int} : sumD (.lst (xs.map .int)) = some (.int xs.sum) := by
  show (intsOf _).map _ = _
  rw [ints_of]
  rfl
def dotL (a b : List Int) : Int := ((a.zip b).map fun p => p.1 * p.2).sum
section
variable {X : XP}
theorem dot_sp {a b : List Int} {d e : D} {P : D → En → Prop} (hd : d = .lst (a.map .int) ∨ d = .tup (a.map .int)) (he : e = .lst (b.map .int) ∨ e = .tup (b.map .int))
    (ha : ∀ x ∈ a, x.natAbs < 2 ^ 2000) (hb : ∀ x ∈ b, x.natAbs < 2 ^ 2000)
    (hx : (a.length < 1 ∨ 4 < a.length ∨ a.length ≠ b.length) → X "BadCall" ["why"] [.str "dim"])
    (hp : 1 ≤ a.length → a.length ≤ 4 → a.length = b.length → ∀ as, P (.int (dotL a b)) as) : sp X F_p_dot [.dat d, .dat e] P := by
  have sz := sizeLine_ge
  have s1 : seqD d = some (a.map .int) := by rcases hd with rfl | rfl <;> rfl
  have s2 : seqD e = some (b.map .int) := by rcases he with rfl | rfl <;> rfl
  have l1 : lnD d = a.length := by rcases hd with rfl | rfl <;> exact List.length_map _
  have l2 : lnD e = b.length := by rcases he with rfl | rfl <;> exact List.length_map _
  have i1 : isRow d := by rcases hd with rfl | rfl <;> rfl
  have i2 : isRow e := by rcases he with rfl | rfl <;> rfl
  unfold F_p_dot
  refine sp_runX (fun _ => rfl) ?_
  unfold b_p_dot
  show wpB X _ [.dat d, .dat e, .emp, .emp] _ _
  walk_at "v"
  refine check_rows_sp (rs := [d, e]) (.inr rfl) (by simp [i1, i2]) (fun h as => ?_) (fun h => hx ?_)
  · have h1 := h d (by simp)
    have h2 := (h e (by simp)).2.2 d rfl
    rw [l1] at h1
    rw [l1, l2] at h2
    rw [s1, s2]
    simp only [ob_some]
    rw [zip_ints]
    refine ⟨by rw [List.length_map, List.length_zip]; omega, ?_⟩
    refine wp_compT _ (fun p => D.int (p.1 * p.2)) (a.zip b) (fun p hp => ?_) ?_
    · have h3 := List.of_mem_zip hp
      rw [asg_t]
      walk_at "v"
      exact lgM (lgB (ha _ h3.1)) (lgB (hb _ h3.2))
    · rw [show ((a.zip b).map fun p => D.int (p.1 * p.2)) = ((a.zip b).map fun p => p.1 * p.2).map D.int by rw [List.map_map]; rfl, sum_i]
      exact hp h1.1 h1.2.1 h2.symm _
  · rcases h with ⟨r, hr, h⟩ | ⟨r, hr, r0, hr0, h⟩
    · simp only [List.mem_cons, List.not_mem_nil, or_false] at hr
      rcases hr with rfl | rfl <;> omega
    · simp only [List.mem_cons, List.not_mem_nil, or_false] at hr hr0
      rcases hr with rfl | rfl <;> rcases hr0 with rfl | rfl <;> omega
/-- a row of whole numbers, told as a list or a tuple -/
def RowD (xs : List Int) (d : D) : Prop := d = .lst (xs.map .int) ∨ d = .tup (xs.map .int)
theorem RowD.seq {xs : List Int} {d : D} (h : RowD xs d) : seqD d = some (xs.map .int) := by rcases h with rfl | rfl <;> rfl
theorem RowD.ln {xs : List Int} {d : D} (h : RowD xs d) : lnD d = xs.length := by rcases h with rfl | rfl <;> exact List.length_map _
theorem RowD.row {xs : List Int} {d : D} (h : RowD xs d) : isRow d := by rcases h with rfl | rfl <;> rfl
theorem RowD.len {xs : List Int} {d : D} (h : RowD xs d) : lenD d = some (.int xs.length) := by rcases h with rfl | rfl <;> simp only [len_l, len_t, List.length_map]
def colS (ws : List Int) (rows : List (List Int)) (j : Nat) : Int := ((ws.zip rows).map fun p => p.1 * p.2.getD j 0).sum
def comL (n : Nat) (ws : List Int) (rows : List (List Int)) : List Int := (List.range n).map (colS ws rows)
theorem A2.at {α β : Type} {R : α → β → Prop} {as : List α} {bs : List β} (h : A2 R as bs) : ∀ {i : Nat} {b : β}, bs[i]? = some b → ∃ a, as[i]? = some a ∧ R a b := by
  induction h with
  | nil => intro i b e; simp at e
  | cons r _ ih =>
    intro i b e
    cases i with
    | zero => cases e; exact ⟨_, rfl, r⟩
    | succ i => exact ih (by simpa using e)
theorem A2.mem {α β : Type} {R : α → β → Prop} {as : List α} {bs : List β} (h : A2 R as bs) {b : β} (hb : b ∈ bs) : ∃ a ∈ as, R a b := by
  obtain ⟨i, hi⟩ := List.mem_iff_getElem?.1 hb
  obtain ⟨a, ha, r⟩ := h.at hi
  exact ⟨a, List.mem_of_getElem? ha, r⟩
theorem A2.mem' {α β : Type} {R : α → β → Prop} {as : List α} {bs : List β} (h : A2 R as bs) {a : α} (ha : a ∈ as) : ∃ b ∈ bs, R a b := by
  induction h with
  | nil => cases ha
  | cons r _ ih =>
    rcases List.mem_cons.1 ha with rfl | ha
    · exact ⟨_, List.mem_cons_self, r⟩
    · obtain ⟨b, hb, r⟩ := ih ha
      exact ⟨b, List.mem_cons_of_mem _ hb, r⟩
theorem A2.zipA {α β γ δ : Type} {R : α → β → Prop} {as : List α} {bs : List β} (f : γ → δ) : ∀ (xs : List γ), A2 R as bs → A2 (fun (p : γ × α) (q : δ × β) => q.1 = f p.1 ∧ R p.2 q.2) (xs.zip as) ((xs.map f).zip bs)
  | [], _ => .nil
  | x :: xs, .nil => .nil
  | x :: xs, .cons r h => .cons ⟨rfl, r⟩ (h.zipA f xs)
theorem sum_app {xs ys : List Int} : (xs ++ ys).sum = xs.sum + ys.sum := by
  induction xs with
  | nil => simp
  | cons x xs ih => simp only [List.cons_append, List.sum_cons, ih]; omega
theorem colS_take {ws : List Int} {rows : List (List Int)} {i : Nat} {w : Int} {r : List Int} (h1 : ws[i]? = some w) (h2 : rows[i]? = some r) (j : Nat) : colS (ws.take (i + 1)) (rows.take (i + 1)) j = colS (ws.take i) (rows.take i) j + w * r.getD j 0 := by
  have hi1 : i < ws.length := (List.getElem?_eq_some_iff.1 h1).1
  have hi2 : i < rows.length := (List.getElem?_eq_some_iff.1 h2).1
  unfold colS
  rw [List.take_succ, List.take_succ, h1, h2, List.zip_append (by rw [List.length_take, List.length_take]; omega), List.map_append, sum_app]
  simp
theorem combination_sp {ws : List Int} {rows : List (List Int)} {d e : D} {rs : List D} {B : Int} {P : D → En → Prop} (hd : RowD ws d) (he : e = .lst rs ∨ e = .tup rs) (hr : A2 RowD rows rs)
    (hn : rows.length ≤ 900)
    (hw : ∀ x ∈ ws, x.natAbs < 2 ^ 2000) (hb : ∀ r ∈ rows, ∀ x ∈ r, x.natAbs < 2 ^ 2000)
    (hx1 : ((∃ r ∈ rows, r.length < 1 ∨ 4 < r.length) ∨ ∃ r ∈ rows, ∃ r0 ∈ rows, r.length ≠ r0.length) → X "BadCall" ["why"] [.str "dim"])
    (hx2 : rows = [] → X "BadCall" ["why"] [.str "rows"])
    (hx3 : (∀ r ∈ rows, 1 ≤ r.length ∧ r.length ≤ 4) → ws.length ≠ rows.length → rows ≠ [] → X "BadCall" ["why"] [.str "weights"])
    (hp : ∀ n, (∀ r ∈ rows, r.length = n) → 1 ≤ n → n ≤ 4 → ws.length = rows.length → ∀ as, P (.tup ((comL n ws rows).map .int)) as) : sp X F_p_combination [.dat d, .dat e] P := by
  have sz := sizeLine_ge
  have s2 : seqD e = some rs := by rcases he with rfl | rfl <;> rfl
  have ln : lenD e = some (.int rs.length) := by rcases he with rfl | rfl <;> rfl
  have hix : ∀ k : Int, ixD e (.int k) = atI rs k := by rcases he with rfl | rfl <;> intro k <;> rfl
  have hrl := hr.len
  unfold F_p_combination
  refine sp_runX (fun _ => rfl) ?_
  unfold b_p_combination
  show wpB X _ [.dat d, .dat e, .emp, .emp, .emp, .emp, .emp] _ _
  walk_at "v"
  refine check_rows_sp he (fun r h => by obtain ⟨a, _, q⟩ := hr.mem h; exact q.row) (fun h as => ?_) (fun h => hx1 ?_)
  · rw [ln, hd.len, hix]
    walk_at "v"
    split
    · rename_i q
      exact ⟨rfl, hx2 (List.length_eq_zero_iff.1 (by omega))⟩
    rename_i q
    have hne : rows ≠ [] := by
      rintro rfl
      exact q (by rw [← hrl]; rfl)
    have hall : ∀ r ∈ rows, 1 ≤ r.length ∧ r.length ≤ 4 := by
      intro r h1
      obtain ⟨b, h2, h3⟩ := hr.mem' h1
      have := h b h2
      rw [h3.ln] at this
      omega
    split
    · rename_i q2
      exact ⟨rfl, hx3 hall (by omega) hne⟩
    rename_i q2
    cases rows with
    | nil => exact absurd rfl hne
    | cons r0 rows =>
    cases rs with
    | nil => cases hr
    | cons t0 rs =>
    have ht0 : RowD r0 t0 := by cases hr; assumption
    rw [show atI (t0 :: rs) 0 = some t0 from at_g (k := 0) rfl, ob_some, ht0.len, ob_some]
    walk_at "v"
    have hr0 := hall r0 List.mem_cons_self
    have hsame : ∀ r ∈ r0 :: rows, r.length = r0.length := by
      intro r h1
      obtain ⟨b, h2, h3⟩ := hr.mem' h1
      have := (h b h2).2.2 t0 rfl
      rw [h3.ln, ht0.ln] at this
      exact this
    refine ⟨⟨by omega, by omega, by rw [List.length_singleton]; omega⟩, ?_⟩
    rw [rep1, s2, hd.seq]
    simp only [ob_some]
    have hz := hr.zipA D.int ws
    refine wb_forL _ (fun i ρ => ∃ x2 x3 x4, ρ = [.dat d, .dat e, x2, x3, x4, .emp, .emp] ∧ (x2 = .dat (.lst ((comL r0.length (ws.take i) ((r0 :: rows).take i)).map .int)) ∨ x2 = .own (.lst ((comL r0.length (ws.take i) ((r0 :: rows).take i)).map .int)))) ⟨_, _, _, rfl, .inl ?_⟩ ?_ ?_
    · rw [List.take_zero, List.take_zero, show comL r0.length [] [] = List.replicate r0.length 0 by
        unfold comL
        rw [show colS [] [] = fun _ => 0 from rfl, List.map_const', List.length_range]]
      rfl
    · rintro i z ρ hi ⟨x2, x3, x4, rfl, h2⟩
      unfold zipD at hi
      rw [List.getElem?_map] at hi
      cases e1 : ((ws.map D.int).zip (t0 :: rs))[i]? with
      | none => rw [e1] at hi; cases hi
      | some q =>
      rw [e1] at hi
      cases hi
      obtain ⟨⟨w, r⟩, e2, e3, e4⟩ := hz.at e1
      obtain ⟨q1, q2⟩ := q
      cases e3
      obtain ⟨e5, e6⟩ := List.getElem?_zip_eq_some.1 e2
      have e7 := hsame r (List.mem_of_getElem? e6)
      have go : ∀ R, wpB X (vSetO 2 (vLc [5, 6] (.tup [5, 6]) (itZip [vVar 2, vVar 4]) (ret true) (opv [.nm 5, .ex (opv [.nm 3, .nm 6] (o2 mulD))] (o2 addD)))) [.dat d, .dat e, x2, .dat (.int w), .dat q2, .emp, .emp] (fun ρ => ∃ x2 x3 x4, ρ = [.dat d, .dat e, x2, x3, x4, .emp, .emp] ∧ (x2 = .dat (.lst ((comL r0.length (ws.take (i + 1)) ((r0 :: rows).take (i + 1))).map .int)) ∨ x2 = .own (.lst ((comL r0.length (ws.take (i + 1)) ((r0 :: rows).take (i + 1))).map .int)))) R := by
        intro R
        have ew := hw w (List.mem_of_getElem? e5)
        have er := hb r (List.mem_of_getElem? e6)
        have cl : (comL r0.length (ws.take i) ((r0 :: rows).take i)).length = r0.length := by unfold comL; rw [List.length_map, List.length_range]
        have core : ∀ (ρ : En) (Q : List D → En → Prop), ρ = [.dat d, .dat e, .dat (.lst ((comL r0.length (ws.take i) ((r0 :: rows).take i)).map .int)), .dat (.int w), .dat q2, .emp, .emp] → Q ((comL r0.length (ws.take (i + 1)) ((r0 :: rows).take (i + 1))).map .int) ρ → wpM XF (compD (.tup [5, 6]) (ret true) (opv [.nm 5, .ex (opv [.nm 3, .nm 6] (o2 mulD))] (o2 addD)) [5, 6] (((comL r0.length (ws.take i) ((r0 :: rows).take i)).zip r).map fun p => .tup [.int p.1, .int p.2])) ρ Q := by
          rintro ρ Q rfl hq
          refine wp_compT _ (fun p => D.int (p.1 + w * p.2)) _ (fun p hp => ?_) ?_
          · have h3 := List.of_mem_zip hp
            rw [asg_t]
            walk_at "v"
            exact lgM (lgB ew) (lgB (er _ h3.2))
          · have e8 : (((comL r0.length (ws.take i) ((r0 :: rows).take i)).zip r).map fun p => D.int (p.1 + w * p.2)) = (comL r0.length (ws.take (i + 1)) ((r0 :: rows).take (i + 1))).map .int := by
              apply List.ext_getElem?
              intro j
              unfold comL
              rw [List.getElem?_map, List.getElem?_map, List.getElem?_map]
              by_cases hj : j < r0.length
              · have hj2 : j < r.length := by omega
                have hz2 : ((((List.range r0.length).map (colS (ws.take i) ((r0 :: rows).take i))).zip r))[j]? = some (colS (ws.take i) ((r0 :: rows).take i) j, r.getD j 0) := by
                  refine List.getElem?_zip_eq_some.2 ⟨by rw [List.getElem?_map, List.getElem?_range hj]; rfl, ?_⟩
                  rw [List.getElem?_eq_getElem hj2]
                  simp [List.getD, List.getElem?_eq_getElem hj2]
                rw [hz2, List.getElem?_range hj]
                simp only [Option.map_some]
                rw [colS_take e5 e6]
              · have hz2 : ((((List.range r0.length).map (colS (ws.take i) ((r0 :: rows).take i))).zip r))[j]? = none := by
                  rw [List.getElem?_eq_none]
                  rw [List.length_zip, List.length_map, List.length_range]
                  omega
                rw [hz2, List.getElem?_eq_none (by rw [List.length_range]; omega)]
                rfl
            rw [e8]
            exact hq
        have zl : (((comL r0.length (ws.take i) ((r0 :: rows).take i)).zip r).map fun p => D.tup [.int p.1, .int p.2]).length ≤ sizeLine := by
          rw [List.length_map, List.length_zip]
          omega
        rcases h2 with rfl | rfl
        · walk_at "v"
          rw [e4.seq, ob_some, zip_ints]
          exact ⟨zl, core _ _ rfl ⟨_, _, _, rfl, .inr rfl⟩⟩
        · walk_at "v"
          rw [e4.seq, ob_some, zip_ints]
          exact ⟨zl, core _ _ rfl ⟨_, _, _, rfl, .inr rfl⟩⟩
      rw [asg_t]
      simp only [asgsC, asgs0, sk3, sk4, ob_some]
      exact go _
    · rintro ρ ⟨x2, x3, x4, rfl, h2⟩
      have : ws.take (zipD (ws.map .int) (t0 :: rs)).length = ws := by
        rw [List.take_of_length_le]
        rw [zipD_len, List.length_map]
        omega
      have e9 : (r0 :: rows).take (zipD (ws.map .int) (t0 :: rs)).length = r0 :: rows := by
        rw [List.take_of_length_le]
        rw [zipD_len, List.length_map]
        omega
      rw [this, e9] at h2
      have hp := hp r0.length hsame hr0.1 hr0.2 (by omega)
      rcases h2 with rfl | rfl
      · walk_at "v"
        exact hp _
      · walk_at "v"
        exact hp _
  · rcases h with ⟨r, hr1, h⟩ | ⟨r, hr1, r1, hr2, h⟩
    · obtain ⟨a, h1, h2⟩ := hr.mem hr1
      rw [h2.ln] at h
      exact .inl ⟨a, h1, h⟩
    · obtain ⟨a, h1, h2⟩ := hr.mem hr1
      obtain ⟨a', h3, h4⟩ := hr.mem hr2
      rw [h2.ln, h4.ln] at h
      exact .inr ⟨a, h1, a', h3, h⟩
end

theorem int_of {cs : List Str} {e : D} (h1 : isiB cs .bl e = some false) (h2 : isiB cs .int e = some true) : ∃ x, e = .int x := by
  cases e with
  | int x => exact ⟨x, rfl⟩
  | bl b => cases h1
  | ins c ns xs => rw [tb_ins_int] at h2; split at h2 <;> cases h2
  | fro xs => cases h2
  | _ => cases h2
theorem abs_gt {x : Int} : (1000000 < (if x < 0 then -x else x)) ↔ ¬ (-1000000 ≤ x ∧ x ≤ 1000000) := by split <;> omega
/-- whole numbers within 10 ** 6, one to four of them -/
def VecL (xs : List Int) : Prop := 1 ≤ xs.length ∧ xs.length ≤ 4 ∧ ∀ x ∈ xs, -1000000 ≤ x ∧ x ≤ 1000000
section
variable {X : XP}
theorem isv_sp {ds : List D} {d : D} {P : D → En → Prop} (hd : d = .lst ds ∨ d = .tup ds) (ht : ∀ e ∈ ds, (∃ b, isiB cs .bl e = some b) ∧ ∃ b, isiB cs .int e = some b)
    (hp1 : ∀ xs, ds = xs.map .int → VecL xs → ∀ as, P (.bl (decide (gcdL xs = 1))) as) (hp2 : (∀ xs, ds = xs.map .int → ¬ VecL xs) → ∀ as, P (.bl false) as) : sp X F_p_is_vector [.dat d] P := by
  have hs : seqD d = some ds := by rcases hd with rfl | rfl <;> rfl
  have hln : lenD d = some (.int ds.length) := by rcases hd with rfl | rfl <;> rfl
  have hty : anyB cs d [.tup, .lst] = some true := by rcases hd with rfl | rfl <;> rfl
  unfold F_p_is_vector
  refine sp_runX (fun _ => rfl) ?_
  unfold b_p_is_vector
  show wpB X _ [.dat d, .emp] _ _
  rw [wb_seq, wb_if, wp_or, wp_not, wq_tb]
  simp only [wp_opv, wp_evsC, wp_evs0, wq_nm, rkd0, ob_some, wq_opx, rdsL, rds0, isiT_1, hty, ob_map, blQ_b]
  walk_at "v"
  rw [hln, ob_some]
  walk_at "v"
  by_cases h1 : 1 ≤ ds.length ∧ ds.length ≤ 4
  · rw [if_pos (by omega), if_neg (by omega), hs, ob_some]
    refine wb_forL ds (fun i ρ => ∃ x, ρ = [.dat d, x] ∧ ∃ xs, ds.take i = xs.map .int ∧ ∀ x ∈ xs, -1000000 ≤ x ∧ x ≤ 1000000) ⟨_, rfl, [], rfl, by simp⟩ ?_ ?_
    · rintro i e ρ hi ⟨x, rfl, xs, hxs, hb⟩
      have hm := List.mem_of_getElem? hi
      obtain ⟨⟨b1, t1⟩, b2, t2⟩ := ht e hm
      have bad : ∀ {p : Prop}, (∀ y, e = .int y → ¬ (-1000000 ≤ y ∧ y ≤ 1000000)) → P (.bl false) [.dat d] := fun {p} hh => hp2 (by
        rintro ys rfl hv
        obtain ⟨y, hy, rfl⟩ := List.mem_map.1 hm
        exact hh y rfl (hv.2.2 y hy)) _
      rw [asg_nm, ob_some]
      walk_at "v"
      rw [t1, t2]
      walk_at "v"
      cases b1 with
      | true =>
        rw [if_pos rfl]
        exact bad (p := True) fun y hy => by subst hy; cases t1
      | false =>
        rw [if_neg (by simp)]
        cases b2 with
        | false =>
          rw [if_pos rfl]
          exact bad (p := True) fun y hy => by subst hy; cases t2
        | true =>
          rw [if_neg (by simp)]
          obtain ⟨y, rfl⟩ := int_of t1 t2
          walk_at "v"
          by_cases hy : -1000000 ≤ y ∧ y ≤ 1000000
          · rw [if_neg (by rw [abs_gt]; exact fun q => q hy)]
            refine ⟨_, rfl, xs ++ [y], by rw [List.take_succ, hi, hxs]; simp, fun z hz => ?_⟩
            rcases List.mem_append.1 hz with hz | hz
            · exact hb z hz
            · cases List.mem_singleton.1 hz
              exact hy
          · rw [if_pos (abs_gt.2 hy)]
            exact bad (p := True) fun z hz => by cases hz; exact hy
    · rintro ρ ⟨x, rfl, xs, hxs, hb⟩
      rw [List.take_length] at hxs
      subst hxs
      rw [List.length_map] at h1
      walk_at "v"
      refine divisor_sp (xs := xs) hs fun as => ?_
      walk_at "v"
      have := hp1 xs rfl ⟨h1.1, h1.2, hb⟩ [.dat d]
      rw [show (decide ((gcdL xs : Int) = 1)) = decide (gcdL xs = 1) by congr 1; exact propext ⟨fun h => by omega, fun h => by omega⟩]
      exact this
  · have hh : ∀ as, P (.bl false) as := hp2 (by
      rintro xs rfl hv
      rw [List.length_map] at h1
      exact h1 ⟨hv.1, hv.2.1⟩)
    by_cases h2 : 1 ≤ ds.length
    · rw [if_pos (by omega), if_pos (by omega)]
      exact hh _
    · rw [if_neg (by omega)]
      exact hh _
theorem isv_non {d : D} {P : D → En → Prop} (hd : anyB cs d [.tup, .lst] = some false) (hp : ∀ as, P (.bl false) as) : sp X F_p_is_vector [.dat d] P := by
  unfold F_p_is_vector
  refine sp_runX (fun _ => rfl) ?_
  unfold b_p_is_vector
  show wpB X _ [.dat d, .emp] _ _
  rw [wb_seq, wb_if, wp_or, wp_not, wq_tb]
  simp only [wp_opv, wp_evsC, wp_evs0, wq_nm, rkd0, ob_some, wq_opx, rdsL, rds0, isiT_1, hd, ob_map, blQ_b]
  walk_at "v"
  exact hp _
end
mutual
def plD : D → Prop
  | .non => True
  | .bl _ => True
  | .int _ => True
  | .str _ => True
  | .lst xs => plA xs
  | .tup xs => plA xs
  | _ => False
def plA : List D → Prop
  | [] => True
  | d :: ds => plD d ∧ plA ds
end
mutual
def szD : D → Nat
  | .lst xs => szA xs + 1
  | .tup xs => szA xs + 1
  | _ => 1
def szA : List D → Nat
  | [] => 0
  | d :: ds => szD d + szA ds
end
theorem plA_app : ∀ {xs ys : List D}, plA (xs ++ ys) ↔ plA xs ∧ plA ys
  | [], ys => by simp [plA]
  | x :: xs, ys => by
    show plD x ∧ plA (xs ++ ys) ↔ (plD x ∧ plA xs) ∧ plA ys
    rw [plA_app, and_assoc]
theorem szA_app : ∀ {xs ys : List D}, szA (xs ++ ys) = szA xs + szA ys
  | [], ys => by simp [szA]
  | x :: xs, ys => by
    show szD x + szA (xs ++ ys) = (szD x + szA xs) + szA ys
    rw [szA_app]
    omega
theorem szD_pos (d : D) : 1 ≤ szD d := by
  cases d <;> simp [szD]
theorem szA_len : ∀ xs : List D, xs.length ≤ szA xs
  | [] => Nat.le_refl _
  | x :: xs => by
    have := szA_len xs
    have := szD_pos x
    show xs.length + 1 ≤ szD x + szA xs
    omega
def both (d : D) : D := .tup [d, d]
section
variable {X : XP}
theorem wb_gen {b : VS} {ρ : En} {N : En → Prop} {R : D → En → Prop} (h : ∀ N' R', (∀ ρ, N ρ → N' ρ) → (∀ d as, R d as → R' d as) → wpB X b ρ N' R') : wpB X b ρ N R := h N R (fun _ h => h) fun _ _ h => h
theorem isnum_sp {i : Int} {P : D → En → Prop} (hp : ∀ as, P (.bl true) as) : sp X F_w_is_number [.dat (.int i)] P := by
  unfold F_w_is_number
  refine sp_runX (fun _ => rfl) ?_
  unfold b_w_is_number
  show wpB X _ [.dat (.int i)] _ _
  walk_at "v"
  exact hp _
theorem alike_sp {d : D} {P : D → En → Prop} (h1 : plD d) (h2 : szD d < 200000) (hp : ∀ as, P (.bl true) as) : sp X F_w_alike [.dat d, .dat d] P := by
  have sz : 1000000 ≤ sizeLine := by decide +kernel
  unfold F_w_alike b_w_alike
  generalize hn : (200000 : Int) = n
  refine sp_runX (fun _ => by rfl) ?_
  show wpB X _ [.dat d, .dat d, .emp, .emp, .emp, .emp, .emp] _ _
  walk_at "v"
  refine ⟨by omega, ?_⟩
  obtain ⟨M, hM⟩ : ∃ M : Nat, n.toNat = M := ⟨_, rfl⟩
  rw [hM]
  replace hM : M = 200000 := by omega
  refine wb_forR M (fun i ρ => ∃ todo x3 x4 x5 x6, ρ = [.dat d, .dat d, .own (.lst (todo.map both)), x3, x4, x5, x6] ∧ plA todo ∧ szA todo + i < 200000) ⟨[d], _, _, _, _, rfl, ⟨h1, trivial⟩, by simp [szA, h2]⟩ ?_ ?_
  · rintro i ρ hi ⟨todo, x3, x4, x5, x6, rfl, hpl, hsz⟩
    rw [asg_nm, ob_some]
    simp only [sk3]
    refine wb_gen fun N R hN hR => ?_
    replace hp : ∀ as, R (.bl true) as := fun as => hR _ _ (hp _)
    refine wb_seqJ (fun ρ => ρ = [.dat d, .dat d, .own (.lst (todo.map both)), .dat (.int i), x4, x5, x6] ∧ todo ≠ []) ?_ ?_
    · walk_at "v"
      split
      · exact hp _
      · rename_i hne
        exact fun q => hne (by rw [q]; rfl)
    rintro _ ⟨rfl, hne⟩
    rcases List.eq_nil_or_concat todo with rfl | ⟨init, e, rfl⟩
    · exact absurd rfl hne
    rw [List.concat_eq_append] at hpl hsz ⊢
    rw [plA_app] at hpl
    rw [szA_app] at hsz
    rw [List.map_append, List.map_singleton]
    refine wb_seqJ (fun ρ => ρ = [.dat d, .dat d, .own (.lst (init.map both)), .dat (.int i), .dat e, .dat e, x6]) ?_ ?_
    · walk_at "v"
      rw [List.getLast?_concat, List.dropLast_concat]
      unfold both
      walk_at "v"
    rintro _ rfl
    have hsz2 : szA [e] = szD e := by simp [szA]
    have hsz3 := szD_pos e
    have fin : ∀ x3 x4 x5 x6, N [Sl.dat d, .dat d, .own (.lst (init.map both)), x3, x4, x5, x6] := fun x3 x4 x5 x6 => hN _ ⟨init, _, _, _, _, rfl, hpl.1, by omega⟩
    have seq : ∀ xs, (e = .lst xs ∨ e = .tup xs) → szD e = szA xs + 1 → plA xs → ∀ x6, wpB X (forD (.nm 6) (vApp 2 (vTup [opv [.nm 4, .nm 6] (o2 ixD), opv [.nm 5, .nm 6] (o2 ixD)])) (rngL 0 1 xs.length)) [.dat d, .dat d, .own (.lst (init.map both)), .dat (.int i), .dat e, .dat e, x6] N R := by
      intro xs he hs hpx x6
      have hl := szA_len xs
      have hl2 := szA_len init
      have hix : ∀ k : Int, ixD e (.int k) = atI xs k := by rcases he with rfl | rfl <;> intro k <;> rfl
      refine wb_forR xs.length (fun k ρ => ∃ x6, ρ = [.dat d, .dat d, .own (.lst ((init ++ xs.take k).map both)), .dat (.int i), .dat e, .dat e, x6]) ⟨_, by rw [List.take_zero, List.append_nil]⟩ ?_ ?_
      · rintro k ρ hk ⟨y6, rfl⟩
        rw [asg_nm, ob_some]
        walk_at "v"
        rw [hix, at_g (List.getElem?_eq_getElem hk)]
        walk_at "v"
        refine ⟨by rw [List.length_append, List.length_take]; omega, .dat (.int k), ?_⟩
        rw [List.take_succ, List.getElem?_eq_getElem hk, ← List.append_assoc, List.map_append (l₁ := init ++ xs.take k)]
        rfl
      · rintro ρ ⟨y6, rfl⟩
        rw [List.take_length]
        exact hN _ ⟨_, _, _, _, _, rfl, plA_app.2 ⟨hpl.1, hpx⟩, by rw [szA_app]; omega⟩
    have hpe : plD e := hpl.2.1
    have ne : ∀ b : Bool, (!decide (b = b)) = false := by simp
    cases e with
    | non =>
      walk_at "v"
      exact fin _ _ _ _
    | bl b =>
      walk_at "v"
      rw [if_neg (by simp)]
      exact fin _ _ _ _
    | int x =>
      walk_at "v"
      refine isnum_sp fun as => ?_
      walk_at "v"
      rw [if_neg (by simp)]
      exact fin _ _ _ _
    | str x =>
      walk_at "v"
      rw [if_neg (by simp)]
      exact fin _ _ _ _
    | lst xs =>
      have hl := szA_len xs
      have hs : szD (.lst xs) = szA xs + 1 := rfl
      walk_at "v"
      rw [if_neg (by simp)]
      refine ⟨by omega, ?_⟩
      rw [Int.toNat_natCast]
      exact seq xs (.inl rfl) hs hpe _
    | tup xs =>
      have hl := szA_len xs
      have hs : szD (.tup xs) = szA xs + 1 := rfl
      walk_at "v"
      rw [if_neg (by simp)]
      refine ⟨by omega, ?_⟩
      rw [Int.toNat_natCast]
      exact seq xs (.inr rfl) hs hpe _
    | fro xs => exact hpe.elim
    | dic ks xs => exact hpe.elim
    | ins c ns xs => exact hpe.elim
  · rintro ρ ⟨todo, x3, x4, x5, x6, rfl, hpl, hsz⟩
    omega
end

mutual
def shD : D → Prop
  | .non => True
  | .bl _ => True
  | .int i => i.natAbs.log2 < 1920
  | .str x => ∀ c ∈ x.cps.toList, c < 16 ^ 8
  | .lst xs => shA xs
  | .tup xs => shA xs
  | _ => False
def shA : List D → Prop
  | [] => True
  | d :: ds => shD d ∧ shA ds
end
mutual
def bkD : D → Nat
  | .str x => x.cps.size
  | .lst xs => bkA xs
  | .tup xs => bkA xs
  | _ => 0
def bkA : List D → Nat
  | [] => 0
  | d :: ds => bkD d + 1 + bkA ds
end
mutual
def dpD : D → Nat
  | .lst xs => dpA xs + 1
  | .tup xs => dpA xs + 1
  | _ => 0
def dpA : List D → Nat
  | [] => 0
  | d :: ds => max (dpD d) (dpA ds)
end
mutual
theorem pyD_ok : ∀ d : D, shD d → ∃ p, pyD d = some p ∧ p.leavesShort 1921 = true ∧ p.bulk = bkD d ∧ p.depth = dpD d
  | .non, _ => ⟨.none, rfl, rfl, rfl, rfl⟩
  | .bl b, _ => ⟨.bool b, rfl, rfl, rfl, rfl⟩
  | .int i, h => ⟨.int i, if_pos h, by
      show decide ((PyData.shown (.int i)).length ≤ 1921) = true
      exact decide_eq_true (PyProof.Rows.int_text_len_1921 h), rfl, rfl⟩
  | .str x, h => ⟨.str x, rfl, by
      show (x.cps.toList.all fun c => decide (c < 16 ^ 8)) = true
      simp only [List.all_eq_true, decide_eq_true_eq]
      exact h, rfl, rfl⟩
  | .lst xs, h => by
    obtain ⟨ps, h1, h2, h3, h4⟩ := pyA_ok xs h
    refine ⟨.list ps, ?_, h2, h3, congrArg (· + 1) h4⟩
    unfold pyD
    rw [h1]
  | .tup xs, h => by
    obtain ⟨ps, h1, h2, h3, h4⟩ := pyA_ok xs h
    refine ⟨.tuple ps, ?_, h2, h3, congrArg (· + 1) h4⟩
    unfold pyD
    rw [h1]
theorem pyA_ok : ∀ ds : List D, shA ds → ∃ ps, pyA ds = some ps ∧ PyData.leavesShortAll 1921 ps = true ∧ PyData.bulkAll ps = bkA ds ∧ PyData.depthAll ps = dpA ds
  | [], _ => ⟨[], rfl, rfl, rfl, rfl⟩
  | d :: ds, h => by
    obtain ⟨p, h1, h2, h3, h4⟩ := pyD_ok d h.1
    obtain ⟨ps, g1, g2, g3, g4⟩ := pyA_ok ds h.2
    refine ⟨p :: ps, ?_, ?_, ?_, ?_⟩
    · unfold pyA
      rw [h1, g1]
    · show (p.leavesShort 1921 && PyData.leavesShortAll 1921 ps) = true
      rw [h2, g2]
      rfl
    · show p.bulk + 1 + PyData.bulkAll ps = bkD d + 1 + bkA ds
      rw [h3, g3]
    · show max p.depth (PyData.depthAll ps) = max (dpD d) (dpA ds)
      rw [h4, g4]
end
theorem repr_ok {d : D} (h1 : shD d) (h2 : bkD d ≤ 8000) (h3 : dpD d ≤ 100) : ∃ s, reprD d = some (.str s) := by
  obtain ⟨p, e, l, b, dp⟩ := pyD_ok d h1
  have ht : topD d = some p := by
    cases d with
    | dic ks ds => exact h1.elim
    | _ => exact e
  have hl := PyData.shown_le_bulk 1921 (by decide) p l
  have hz : sizeLine = 16777216 := by decide +kernel
  refine ⟨p.shown, ?_⟩
  unfold reprD
  rw [ht]
  have : reprOk p = true := by
    unfold reprOk
    rw [decide_eq_true (by omega), decide_eq_true (by rw [b] at hl; omega)]
    rfl
  simp only
  rw [if_pos this]
theorem Dr.keep {d d' : D} (h : Dr d d') : (shD d → shD d') ∧ bkD d' = bkD d ∧ dpD d' = dpD d := by
  cases h with
  | same => exact ⟨id, rfl, rfl⟩
  | un ds => exact ⟨id, rfl, rfl⟩
theorem drs_keep {ds ds' : List D} (h : A2 Dr ds ds') : (shA ds → shA ds') ∧ bkA ds' = bkA ds ∧ dpA ds' = dpA ds := by
  induction h with
  | nil => exact ⟨id, rfl, rfl⟩
  | @cons a b as bs h1 _ ih =>
    have hk := h1.keep
    refine ⟨fun h => ⟨hk.1 h.1, ih.1 h.2⟩, ?_, ?_⟩
    · show bkD b + 1 + bkA bs = bkD a + 1 + bkA as
      rw [hk.2.1, ih.2.1]
    · show max (dpD b) (dpA bs) = max (dpD a) (dpA as)
      rw [hk.2.2, ih.2.2]
theorem drt_keep {d d' : D} (h : DrT d d') : (shD d → shD d') ∧ bkD d' = bkD d ∧ dpD d' = dpD d := by
  obtain ⟨es, es', h1, h2, h3⟩ := h
  have hk := drs_keep h2
  cases d with
  | lst xs =>
    cases h1
    rcases h3 with rfl | rfl <;> exact ⟨hk.1, hk.2.1, congrArg (· + 1) hk.2.2⟩
  | tup xs =>
    cases h1
    rcases h3 with rfl | rfl <;> exact ⟨hk.1, hk.2.1, congrArg (· + 1) hk.2.2⟩
  | _ => cases h1
theorem drts_keep {ds ds' : List D} (h : A2 DrT ds ds') : (shA ds → shA ds') ∧ bkA ds' = bkA ds ∧ dpA ds' = dpA ds := by
  induction h with
  | nil => exact ⟨id, rfl, rfl⟩
  | @cons a b as bs h1 _ ih =>
    have hk := drt_keep h1
    refine ⟨fun h => ⟨hk.1 h.1, ih.1 h.2⟩, ?_, ?_⟩
    · show bkD b + 1 + bkA bs = bkD a + 1 + bkA as
      rw [hk.2.1, ih.2.1]
    · show max (dpD b) (dpA bs) = max (dpD a) (dpA as)
      rw [hk.2.2, ih.2.2]
/-- what is tried: told, or refused by one of the two classes -/
def XT (P : D → Prop) : XP := fun c ns ds => ∃ w : Str, (c = "BadCall" ∨ c = "BadVector") ∧ ns = [("why" : Str)] ∧ ds = [.str w] ∧ P (.tup [.str "refused", .str c, .str w])
theorem try_sp {deed given : D} {P : D → Prop} (h : sp (XT P) F_w_call [.dat deed, .dat given] fun d _ => P (.tup [.str "told", d])) : sp XF F_w_try [.dat deed, .dat given] fun d _ => P d := by
  unfold F_w_try
  refine sp_run ?_
  show wpB XF _ [.dat deed, .dat given, .emp, .emp, .emp] _ _
  unfold sp at h
  unfold wpB
  cases e : F_w_call [.dat deed, .dat given] with
  | ok d as =>
    rw [e] at h
    have e1 : b_w_try [.dat deed, .dat given, .emp, .emp, .emp] = .rt (.tup [.str "told", d]) [.dat deed, .dat given, .emp, .emp, .emp] := by
      simp only [b_w_try, vSeq, vTryAs, vRet, sb, vTup, Vi.bind, evd, vCall, ret, vVar, gk0, gk1, List.map_cons, List.map_nil, e]
    rw [e1]
    exact h
  | ex c ns ds as =>
    rw [e] at h
    obtain ⟨w, hc, rfl, rfl, hp⟩ := h
    have e1 : ∃ ρ2, b_w_try [.dat deed, .dat given, .emp, .emp, .emp] = .rt (.tup [.str "refused", .str c, .str w]) ρ2 := by
      rcases hc with rfl | rfl
      · refine ⟨[.dat deed, .dat given, .emp, .dat (.lst (List.replicate 14 (.bl false))), .dat (.lst [.bl true, .bl false])], ?_⟩
        simp only [b_w_try, vSeq, vTryAs, vRet, sb, vTup, Vi.bind, evd, vCall, ret, vVar, gk0, gk1, List.map_cons, List.map_nil, e]
        kernel_rfl
      · refine ⟨[.dat deed, .dat given, .emp, .dat (.lst (List.replicate 14 (.bl false))), .dat (.lst [.bl false, .bl true])], ?_⟩
        simp only [b_w_try, vSeq, vTryAs, vRet, sb, vTup, Vi.bind, evd, vCall, ret, vVar, gk0, gk1, List.map_cons, List.map_nil, e]
        kernel_rfl
    obtain ⟨ρ2, e1⟩ := e1
    rw [e1]
    exact hp
  | no => rw [e] at h; exact h.elim
/-- what is asked twice: as due -/
theorem asked_sp {n : Int} {m : MO} {deed : Str} {ts : List D} {due : D} {P : D → En → Prop} (hm : Sto n m) (hn : n ≤ 600000000) (hl : ts.length ≤ 1000)
    (ht : ∀ t ∈ ts, ∃ es, seqD t = some es ∧ es.length ≤ 70 ∧ ∀ e ∈ es, ∃ b, isiB cs .tup e = some b ∧ (b = true → ∃ ds, e = .tup ds))
    (h1 : shA ts) (h2 : bkA ts ≤ 8000) (h3 : dpA ts ≤ 50) (hd1 : plD due) (hd2 : szD due < 200000)
    (htry : ∀ ys, A2 DrT ts ys → sp XF F_w_try [.dat (.str deed), .dat (.lst ys)] fun d _ => d = due)
    (hp : ∀ m', Sto (n + 72 * ts.length) m' → P (.bl true) [.mu m', .dat (.str deed), .dat (.lst ts), .dat due]) : sp XF F_w_asked [.mu m, .dat (.str deed), .dat (.lst ts), .dat due] P := by
  unfold F_w_asked
  refine sp_run ?_
  unfold b_w_asked
  show wpB XF _ [.mu m, .dat (.str deed), .dat (.lst ts), .dat due, .emp, .emp] _ _
  refine wb_seqJ (fun ρ => ∃ m' ys, ρ = [.mu m', .dat (.str deed), .dat (.lst ts), .dat due, .dat (.lst ys), .emp] ∧ A2 DrT ts ys ∧ Sto (n + 72 * ts.length) m') ?_ ?_
  · walk_at "v"
    refine dressed_sp hm (by omega) hl ht fun ys m' hy hm' => ?_
    walk_at "v"
    exact ⟨m', ys, rfl, hy, hm'⟩
  rintro _ ⟨m', ys, rfl, hy, hm'⟩
  have hk := drts_keep hy
  obtain ⟨s, hs⟩ := repr_ok (d := .lst ys) (hk.1 h1) (by show bkA ys ≤ _; omega) (by show dpA ys + 1 ≤ _; omega)
  walk_at "v"
  simp only [hs, ob_some]
  refine sp_imp (htry ys hy) ?_
  rintro _ as rfl
  refine alike_sp hd1 hd2 fun as => ?_
  walk_at "v"
  simp only [decide_true, Bool.not_true, Bool.false_eq_true, if_false]
  refine sp_imp (htry ys hy) ?_
  rintro _ as rfl
  refine alike_sp hd1 hd2 fun as => ?_
  walk_at "v"
  exact hp m' hm'

theorem drs_ints : ∀ {xs : List Int} {es : List D}, A2 Dr (xs.map .int) es → es = xs.map .int
  | [], _, .nil => rfl
  | x :: xs, _, .cons h1 h2 => by
    cases h1
    rw [drs_ints h2]
    rfl
theorem drt_row {xs : List Int} {y : D} (h : DrT (.tup (xs.map .int)) y) : RowD xs y := by
  obtain ⟨es, es', h1, h2, h3⟩ := h
  cases h1
  rw [drs_ints h2] at h3
  exact h3
theorem drt_rowl {xs : List Int} {y : D} (h : DrT (.lst (xs.map .int)) y) : RowD xs y := by
  obtain ⟨es, es', h1, h2, h3⟩ := h
  cases h1
  rw [drs_ints h2] at h3
  exact h3
theorem drs_rows : ∀ {rs : List (List Int)} {es : List D}, A2 Dr (rs.map fun r => .tup (r.map .int)) es → A2 RowD rs es
  | [], _, .nil => .nil
  | r :: rs, _, .cons h1 h2 => by
    refine .cons ?_ (drs_rows h2)
    cases h1 with
    | same => exact .inr rfl
    | un => exact .inl rfl
theorem drt_rows {rs : List (List Int)} {y : D} (h : DrT (.lst (rs.map fun r => .tup (r.map .int))) y) : ∃ es, A2 RowD rs es ∧ (y = .lst es ∨ y = .tup es) := by
  obtain ⟨es, es', h1, h2, h3⟩ := h
  cases h1
  exact ⟨es', drs_rows h2, h3⟩
theorem a2_one {α β : Type} {R : α → β → Prop} {a : α} {bs : List β} (h : A2 R [a] bs) : ∃ b, bs = [b] ∧ R a b := by
  cases h with
  | cons h1 h2 => cases h2; exact ⟨_, rfl, h1⟩
theorem a2_two {α β : Type} {R : α → β → Prop} {a a' : α} {bs : List β} (h : A2 R [a, a'] bs) : ∃ b b', bs = [b, b'] ∧ R a b ∧ R a' b' := by
  cases h with
  | cons h1 h2 =>
    obtain ⟨b, rfl, h3⟩ := a2_one h2
    exact ⟨_, _, rfl, h1, h3⟩
theorem n_pi : (("primitive" : Str) = "is_vector") = False := eq_false (by decide +kernel)
theorem n_ui : (("upright" : Str) = "is_vector") = False := eq_false (by decide +kernel)
theorem n_up : (("upright" : Str) = "primitive") = False := eq_false (by decide +kernel)
theorem n_uc : (("upright" : Str) = "contrary") = False := eq_false (by decide +kernel)
theorem n_pc : (("primitive" : Str) = "contrary") = False := eq_false (by decide +kernel)
theorem n_pu : (("primitive" : Str) = "upright") = False := eq_false (by decide +kernel)
theorem n_ci : (("contrary" : Str) = "is_vector") = False := eq_false (by decide +kernel)
theorem n_cp : (("contrary" : Str) = "primitive") = False := eq_false (by decide +kernel)
theorem n_cu : (("contrary" : Str) = "upright") = False := eq_false (by decide +kernel)
theorem n_di : (("dot" : Str) = "is_vector") = False := eq_false (by decide +kernel)
theorem n_dp : (("dot" : Str) = "primitive") = False := eq_false (by decide +kernel)
theorem n_du : (("dot" : Str) = "upright") = False := eq_false (by decide +kernel)
theorem n_dc : (("dot" : Str) = "contrary") = False := eq_false (by decide +kernel)
theorem n_oi : (("combination" : Str) = "is_vector") = False := eq_false (by decide +kernel)
theorem n_op : (("combination" : Str) = "primitive") = False := eq_false (by decide +kernel)
theorem n_ou : (("combination" : Str) = "upright") = False := eq_false (by decide +kernel)
theorem n_oc : (("combination" : Str) = "contrary") = False := eq_false (by decide +kernel)
theorem n_od : (("combination" : Str) = "dot") = False := eq_false (by decide +kernel)
theorem at0 {x : D} {xs : List D} : atI (x :: xs) 0 = some x := at_g (k := 0) rfl
theorem at1 {x y : D} {xs : List D} : atI (x :: y :: xs) 1 = some y := at_g (k := 1) rfl
section
variable {X : XP} {d e : D} {r : List D} {P : D → En → Prop}
theorem call_isv (h : sp X F_p_is_vector [.dat d] fun z _ => ∀ as, P z as) : sp X F_w_call [.dat (.str "is_vector"), .dat (.lst (d :: r))] P := by
  unfold F_w_call
  refine sp_runX (fun _ => rfl) ?_
  unfold b_w_call
  show wpB X _ [.dat (.str "is_vector"), .dat (.lst (d :: r))] _ _
  rw [wb_seq, wb_if]
  walk_at "v"
  rw [at0, ob_some]
  exact sp_imp h fun z as hz => hz _
theorem call_prim (h : sp X F_p_primitive [.dat d] fun z _ => ∀ as, P z as) : sp X F_w_call [.dat (.str "primitive"), .dat (.lst (d :: r))] P := by
  unfold F_w_call
  refine sp_runX (fun _ => rfl) ?_
  unfold b_w_call
  show wpB X _ [.dat (.str "primitive"), .dat (.lst (d :: r))] _ _
  walk_at "v"
  simp only [n_pi, if_false, if_true, at0, ob_some]
  exact sp_imp h fun z as hz => hz _
theorem call_up (h : sp X F_p_upright [.dat d] fun z _ => ∀ as, P z as) : sp X F_w_call [.dat (.str "upright"), .dat (.lst (d :: r))] P := by
  unfold F_w_call
  refine sp_runX (fun _ => rfl) ?_
  unfold b_w_call
  show wpB X _ [.dat (.str "upright"), .dat (.lst (d :: r))] _ _
  walk_at "v"
  simp only [n_ui, n_up, if_false, if_true, at0, ob_some]
  exact sp_imp h fun z as hz => hz _
theorem call_con (h : sp X F_p_contrary [.dat d] fun z _ => ∀ as, P z as) : sp X F_w_call [.dat (.str "contrary"), .dat (.lst (d :: r))] P := by
  unfold F_w_call
  refine sp_runX (fun _ => rfl) ?_
  unfold b_w_call
  show wpB X _ [.dat (.str "contrary"), .dat (.lst (d :: r))] _ _
  walk_at "v"
  simp only [n_ci, n_cp, n_cu, if_false, if_true, at0, ob_some]
  exact sp_imp h fun z as hz => hz _
theorem call_dot (h : sp X F_p_dot [.dat d, .dat e] fun z _ => ∀ as, P z as) : sp X F_w_call [.dat (.str "dot"), .dat (.lst (d :: e :: r))] P := by
  unfold F_w_call
  refine sp_runX (fun _ => rfl) ?_
  unfold b_w_call
  show wpB X _ [.dat (.str "dot"), .dat (.lst (d :: e :: r))] _ _
  walk_at "v"
  simp only [n_di, n_dp, n_du, n_dc, if_false, if_true, at0, at1, ob_some]
  exact sp_imp h fun z as hz => hz _
theorem call_com (h : sp X F_p_combination [.dat d, .dat e] fun z _ => ∀ as, P z as) : sp X F_w_call [.dat (.str "combination"), .dat (.lst (d :: e :: r))] P := by
  unfold F_w_call
  refine sp_runX (fun _ => rfl) ?_
  unfold b_w_call
  show wpB X _ [.dat (.str "combination"), .dat (.lst (d :: e :: r))] _ _
  walk_at "v"
  simp only [n_oi, n_op, n_ou, n_oc, n_od, if_false, if_true, at0, at1, ob_some]
  exact sp_imp h fun z as hz => hz _
end
def told (d : D) : D := .tup [.str "told", d]
def refused (c w : Str) : D := .tup [.str "refused", .str c, .str w]
def dueIs (xs : List Int) : D := told (.bl (decide (gcdL xs = 1 ∧ ∀ x ∈ xs, -1000000 ≤ x ∧ x ≤ 1000000)))
def dueZero (xs : List Int) (d : D) : D := if gcdL xs = 0 then refused "BadVector" "zero" else d
theorem xt {P : D → Prop} {w : Str} (h : P (refused "BadCall" w)) : XT P "BadCall" ["why"] [.str w] := ⟨w, .inl rfl, rfl, rfl, h⟩
theorem xt2 {P : D → Prop} {w : Str} (h : P (refused "BadVector" w)) : XT P "BadVector" ["why"] [.str w] := ⟨w, .inr rfl, rfl, rfl, h⟩
section
variable {xs : List Int} {d : D} {r : List D}
theorem try_isv (hd : RowD xs d) (h1 : 1 ≤ xs.length) (h2 : xs.length ≤ 4) : sp XF F_w_try [.dat (.str "is_vector"), .dat (.lst (d :: r))] fun z _ => z = dueIs xs := by
  refine try_sp (call_isv ?_)
  refine isv_sp hd (fun e he => ?_) (fun ys e hv as => ?_) (fun hv as => ?_)
  · obtain ⟨x, _, rfl⟩ := List.mem_map.1 he
    exact ⟨⟨_, rfl⟩, ⟨_, rfl⟩⟩
  · have e2 : xs = ys := by
      have := congrArg intsOf e
      rw [ints_of, ints_of] at this
      cases this
      rfl
    subst e2
    intro as
    unfold dueIs
    have := hv.2.2
    simp only [this, implies_true, and_true, told]
    by_cases h : gcdL xs = 1
    · simp [h]; exact this
    · simp [h]
  · intro as
    unfold dueIs
    have : ¬ ∀ x ∈ xs, -1000000 ≤ x ∧ x ≤ 1000000 := fun q => hv xs rfl ⟨h1, h2, q⟩
    simp only [this, and_false, told]
    rfl
theorem try_isv_len (hd : RowD xs d) (h1 : xs.length < 1 ∨ 4 < xs.length) : sp XF F_w_try [.dat (.str "is_vector"), .dat (.lst (d :: r))] fun z _ => z = told (.bl false) := by
  refine try_sp (call_isv ?_)
  refine isv_sp hd (fun e he => ?_) (fun ys e hv as => ?_) (fun hv as => ?_)
  · obtain ⟨x, _, rfl⟩ := List.mem_map.1 he
    exact ⟨⟨_, rfl⟩, ⟨_, rfl⟩⟩
  · have e2 : xs = ys := by
      have := congrArg intsOf e
      rw [ints_of, ints_of] at this
      cases this
      rfl
    subst e2
    have := hv.1
    have := hv.2.1
    omega
  · exact fun _ => rfl
theorem try_prim (hd : RowD xs d) (hb : ∀ x ∈ xs, x.natAbs < 2 ^ 2000) (h1 : 1 ≤ xs.length) (h2 : xs.length ≤ 4) : sp XF F_w_try [.dat (.str "primitive"), .dat (.lst (d :: r))] fun z _ => z = dueZero xs (told (.tup ((primL xs).map .int))) := by
  refine try_sp (call_prim ?_)
  exact primitive_sp hd hb (fun h => by omega) (fun _ _ h => xt2 (by unfold dueZero; rw [if_pos h])) fun _ _ h as as' => by unfold dueZero; rw [if_neg h]; rfl
theorem try_up (hd : RowD xs d) (hb : ∀ x ∈ xs, x.natAbs < 2 ^ 2000) (h1 : 1 ≤ xs.length) (h2 : xs.length ≤ 4) : sp XF F_w_try [.dat (.str "upright"), .dat (.lst (d :: r))] fun z _ => z = dueZero xs (told (.tup ((upL (primL xs) (primL xs)).map .int))) := by
  refine try_sp (call_up ?_)
  exact upright_sp hd hb (fun h => by omega) (fun _ _ h => xt2 (by unfold dueZero; rw [if_pos h])) fun _ _ h as as' => by unfold dueZero; rw [if_neg h]; rfl
theorem try_con (hd : RowD xs d) (h1 : 1 ≤ xs.length) (h2 : xs.length ≤ 4) : sp XF F_w_try [.dat (.str "contrary"), .dat (.lst (d :: r))] fun z _ => z = told (.tup ((negL xs).map .int)) := by
  refine try_sp (call_con ?_)
  exact contrary_sp hd (by omega) (fun h => by omega) fun _ _ as as' => rfl
theorem try_dim {deed : Str} (hd : RowD xs d) (hl : xs.length ≤ 900) (hb : ∀ x ∈ xs, x.natAbs < 2 ^ 2000) (h1 : xs.length < 1 ∨ 4 < xs.length) (hde : deed = "primitive" ∨ deed = "upright" ∨ deed = "contrary") : sp XF F_w_try [.dat (.str deed), .dat (.lst (d :: r))] fun z _ => z = refused "BadCall" "dim" := by
  rcases hde with rfl | rfl | rfl
  · refine try_sp (call_prim ?_)
    exact primitive_sp hd hb (fun _ => xt rfl) (fun _ _ _ => by omega) fun _ _ _ => by omega
  · refine try_sp (call_up ?_)
    exact upright_sp hd hb (fun _ => xt rfl) (fun _ _ _ => by omega) fun _ _ _ => by omega
  · refine try_sp (call_con ?_)
    exact contrary_sp hd hl (fun _ => xt rfl) fun _ _ => by omega
theorem try_dot {ys : List Int} {e : D} (hd : RowD xs d) (he : RowD ys e) (hb : ∀ x ∈ xs, x.natAbs < 2 ^ 2000) (hb2 : ∀ x ∈ ys, x.natAbs < 2 ^ 2000) (h1 : 1 ≤ xs.length) (h2 : xs.length ≤ 4) (h3 : xs.length = ys.length) : sp XF F_w_try [.dat (.str "dot"), .dat (.lst (d :: e :: r))] fun z _ => z = told (.int (dotL xs ys)) := by
  refine try_sp (call_dot ?_)
  exact dot_sp hd he hb hb2 (fun h => by omega) fun _ _ _ as as' => rfl
theorem try_dot_dim {ys : List Int} {e : D} (hd : RowD xs d) (he : RowD ys e) (hb : ∀ x ∈ xs, x.natAbs < 2 ^ 2000) (hb2 : ∀ x ∈ ys, x.natAbs < 2 ^ 2000) (h : xs.length < 1 ∨ 4 < xs.length ∨ xs.length ≠ ys.length) : sp XF F_w_try [.dat (.str "dot"), .dat (.lst (d :: e :: r))] fun z _ => z = refused "BadCall" "dim" := by
  refine try_sp (call_dot ?_)
  exact dot_sp hd he hb hb2 (fun h => xt rfl) fun _ _ _ => by omega
end
theorem lex_up : ∀ (xs all : List Int), upL all xs = if xs < negL xs then negL all else all
  | [], all => by
    unfold negL
    simp [upL]
  | x :: xs, all => by
    rw [upL_cons]
    show _ = if x :: xs < -x :: negL xs then negL all else all
    have e : (x :: xs < -x :: negL xs) ↔ (x < -x ∨ (x = -x ∧ xs < negL xs)) := List.cons_lt_cons_iff
    rcases (by omega : 0 < x ∨ x < 0 ∨ x = 0) with h | h | h
    · rw [if_pos h, if_neg]
      rw [e]
      omega
    · rw [if_neg (by omega), if_pos h, if_pos]
      rw [e]
      omega
    · rw [if_neg (by omega), if_neg (by omega), lex_up xs all]
      have e2 : (x :: xs < -x :: negL xs) ↔ xs < negL xs := by
        rw [e]
        exact ⟨fun q => q.elim (fun z => by omega) (·.2), fun q => .inr ⟨by omega, q⟩⟩
      by_cases q : xs < negL xs
      · rw [if_pos q, if_pos (e2.2 q)]
      · rw [if_neg q, if_neg (fun z => q (e2.1 z))]
theorem pyA_ints : ∀ {xs : List Int}, (∀ x ∈ xs, x.natAbs.log2 < 1920) → pyA (xs.map .int) = some (xs.map .int)
  | [], _ => rfl
  | x :: xs, h => by
    rw [List.map_cons]
    unfold pyA
    rw [pyA_ints fun y hy => h y (List.mem_cons_of_mem _ hy), show pyD (.int x) = some (.int x) from if_pos (h x List.mem_cons_self)]
    rfl
theorem intsL_ints : ∀ xs : List Int, intsL (xs.map .int) = some xs
  | [] => rfl
  | x :: xs => by
    rw [List.map_cons]
    unfold intsL
    rw [intsL_ints xs]
theorem maxT_i {xs ys : List Int} (h1 : ∀ x ∈ xs, x.natAbs.log2 < 1920) (h2 : ∀ x ∈ ys, x.natAbs.log2 < 1920) : maxTD (.tup (xs.map .int)) (.tup (ys.map .int)) = some (.tup ((if xs < ys then ys else xs).map .int)) := by
  have e : ∀ {xs : List Int}, (∀ x ∈ xs, x.natAbs.log2 < 1920) → pyD (.tup (xs.map .int)) = some (.tuple (xs.map .int)) := by
    intro xs h
    unfold pyD
    rw [pyA_ints h]
  unfold maxTD
  rw [e h1, e h2]
  simp only [intsP, intsL_ints]
  split <;> rfl

theorem maxI_le : ∀ (xs : List Int), xs ≠ [] → ∃ m, maxI xs = some m ∧ ∀ k, m ≤ k ↔ ∀ x ∈ xs, x ≤ k := by
  intro xs h
  cases xs with
  | nil => exact absurd rfl h
  | cons x xs =>
    have hm : maxI (x :: xs) = some (xs.foldl max x) := rfl
    obtain ⟨h1, h2⟩ := maxI_ok hm
    exact ⟨_, hm, fun k => ⟨fun hk y hy => Int.le_trans (h2 y hy) hk, fun hk => hk _ h1⟩⟩
theorem big_log {B : Nat} {xs : List Int} (h : ∀ x ∈ xs, x.natAbs < 2 ^ 200) : ∀ x ∈ xs, x.natAbs.log2 < 1920 := fun x hx => Nat.lt_of_le_of_lt (lgB (h x hx)) (by decide)
theorem big_2000 {xs : List Int} (h : ∀ x ∈ xs, x.natAbs < 2 ^ 200) : ∀ x ∈ xs, x.natAbs < 2 ^ 2000 := fun x hx => Nat.lt_of_lt_of_le (h x hx) (Nat.pow_le_pow_right (by decide) (by decide))
theorem negB {xs : List Int} {k : Nat} (h : ∀ x ∈ xs, x.natAbs < 2 ^ k) : ∀ x ∈ negL xs, x.natAbs < 2 ^ k := by
  intro x hx
  obtain ⟨y, hy, rfl⟩ := List.mem_map.1 hx
  rw [Int.natAbs_neg]
  exact h y hy
theorem primN {xs : List Int} {k : Nat} (h : ∀ x ∈ xs, x.natAbs < 2 ^ k) : ∀ x ∈ primL xs, x.natAbs < 2 ^ k := by
  unfold primL
  split
  · exact h
  · rename_i hz
    intro x hx
    obtain ⟨y, hy, rfl⟩ := List.mem_map.1 hx
    have e : (y.fdiv (gcdL xs : Int)).natAbs = y.natAbs / gcdL xs := by
      rw [Int.fdiv_eq_ediv_of_nonneg _ (by omega), Int.natAbs_ediv_of_dvd (Int.ofNat_dvd_left.2 (gcdL_dvd hy))]
      simp
    rw [e]
    exact Nat.lt_of_le_of_lt (Nat.div_le_self _ _) (h y hy)
section
variable {xs : List Int} {P : D → En → Prop}
theorem lturned_sp (hl : xs.length ≤ 900) (hp : ∀ as, P (.tup ((negL xs).map .int)) as) : sp XF F_w_turned [.dat (.tup (xs.map .int))] P := by
  have sz := sizeLine_ge
  unfold F_w_turned
  refine sp_run ?_
  unfold b_w_turned
  show wpB XF _ [.dat (.tup (xs.map .int)), .emp] _ _
  walk_at "v"
  refine ⟨by omega, neg_comp (fun _ => rfl) (fun _ => rfl) ?_⟩
  exact hp _
theorem lup_sp (hl : xs.length ≤ 900) (hb : ∀ x ∈ xs, x.natAbs < 2 ^ 200) (hp : ∀ as, P (.tup ((upL (primL xs) (primL xs)).map .int)) as) : sp XF F_w_up [.dat (.tup (xs.map .int))] P := by
  have sz := sizeLine_ge
  unfold F_w_up
  refine sp_run ?_
  unfold b_w_up
  show wpB XF _ [.dat (.tup (xs.map .int)), .emp, .emp] _ _
  walk_at "v"
  refine prim_sp (big_2000 hb) hl (fun as => ?_) _ rfl rfl
  walk_at "v"
  refine ⟨by rw [prim_len]; omega, neg_comp (fun _ => rfl) (fun _ => rfl) ?_⟩
  walk_at "v"
  rw [maxT_i (big_log (B := 0) (primN hb)) (big_log (B := 0) (negB (primN hb)))]
  have := hp [.dat (.tup (xs.map .int))]
  rw [lex_up] at this
  exact this
theorem due_isv (h0 : xs ≠ []) (hl : xs.length ≤ 900) (hb : ∀ x ∈ xs, x.natAbs < 2 ^ 200) (hp : ∀ as, P (dueIs xs) as) : sp XF F_w_due [.dat (.str "is_vector"), .dat (.tup (xs.map .int))] P := by
  have sz := sizeLine_ge
  unfold F_w_due
  refine sp_run ?_
  unfold b_w_due
  show wpB XF _ [.dat (.str "is_vector"), .dat (.tup (xs.map .int)), .emp, .emp] _ _
  rw [wb_seq, wb_if]
  walk_at "v"
  refine ⟨by omega, wp_compP D.int (fun x => D.int (x.natAbs : Int)) xs (fun x hx => ?_) ?_⟩
  · walk_at "v"
    rw [abs_e]
  · have e : xs.map (fun x => D.int (x.natAbs : Int)) = (xs.map fun x => (x.natAbs : Int)).map .int := by rw [List.map_map]; rfl
    rw [e]
    obtain ⟨m, hm, hk⟩ := maxI_le (xs.map fun x => (x.natAbs : Int)) (by simp [h0])
    have e2 : maxLD (.lst ((xs.map fun x => (x.natAbs : Int)).map .int)) = some (.int m) := by
      unfold maxLD
      simp only [ints_of, hm]
      rfl
    walk_at "v"
    simp only [e2, ob_some]
    refine content_sp (big_2000 hb) (fun as => ?_) _ rfl
    walk_at "v"
    have hk2 : m ≤ 1000000 ↔ ∀ x ∈ xs, -1000000 ≤ x ∧ x ≤ 1000000 := by
      rw [hk]
      constructor
      · intro h x hx
        have := h _ (List.mem_map.2 ⟨x, hx, rfl⟩)
        omega
      · intro h y hy
        obtain ⟨x, hx, rfl⟩ := List.mem_map.1 hy
        have := h x hx
        show (x.natAbs : Int) ≤ _
        omega
    have hp := hp [.dat (.str "is_vector"), .dat (.tup (xs.map .int))]
    unfold dueIs at hp
    by_cases h1 : gcdL xs = 1
    · rw [if_pos (by omega)]
      rw [show decide (gcdL xs = 1 ∧ ∀ x ∈ xs, -1000000 ≤ x ∧ x ≤ 1000000) = decide (m ≤ 1000000) by
        apply decide_eq_decide.2
        rw [hk2]
        exact ⟨(·.2), fun h => ⟨h1, h⟩⟩] at hp
      exact hp
    · rw [if_neg (by omega)]
      rw [show decide (gcdL xs = 1 ∧ ∀ x ∈ xs, -1000000 ≤ x ∧ x ≤ 1000000) = false by
        apply decide_eq_false
        exact fun h => h1 h.1] at hp
      exact hp
theorem due_con (hl : xs.length ≤ 900) (hp : ∀ as, P (told (.tup ((negL xs).map .int))) as) : sp XF F_w_due [.dat (.str "contrary"), .dat (.tup (xs.map .int))] P := by
  unfold F_w_due
  refine sp_run ?_
  unfold b_w_due
  show wpB XF _ [.dat (.str "contrary"), .dat (.tup (xs.map .int)), .emp, .emp] _ _
  walk_at "v"
  simp only [n_ci, if_false, if_true]
  refine lturned_sp hl fun as => ?_
  exact hp _
theorem due_up (hl : xs.length ≤ 900) (hb : ∀ x ∈ xs, x.natAbs < 2 ^ 200) (hp : ∀ as, P (dueZero xs (told (.tup ((upL (primL xs) (primL xs)).map .int)))) as) : sp XF F_w_due [.dat (.str "upright"), .dat (.tup (xs.map .int))] P := by
  unfold F_w_due
  refine sp_run ?_
  unfold b_w_due
  show wpB XF _ [.dat (.str "upright"), .dat (.tup (xs.map .int)), .emp, .emp] _ _
  walk_at "v"
  simp only [n_ui, n_uc, if_false, if_true]
  refine content_sp (big_2000 hb) (fun as => ?_) _ rfl
  walk_at "v"
  unfold dueZero at hp
  split
  · rename_i h
    rw [if_pos (by omega)] at hp
    exact hp _
  · rename_i h
    rw [if_neg (by omega)] at hp
    refine lup_sp hl hb fun as => ?_
    exact hp _
theorem due_prim (hl : xs.length ≤ 900) (hb : ∀ x ∈ xs, x.natAbs < 2 ^ 200) (hp : ∀ as, P (dueZero xs (told (.tup ((primL xs).map .int)))) as) : sp XF F_w_due [.dat (.str "primitive"), .dat (.tup (xs.map .int))] P := by
  unfold F_w_due
  refine sp_run ?_
  unfold b_w_due
  show wpB XF _ [.dat (.str "primitive"), .dat (.tup (xs.map .int)), .emp, .emp] _ _
  walk_at "v"
  simp only [n_pi, n_pc, n_pu, if_false, if_true]
  refine content_sp (big_2000 hb) (fun as => ?_) _ rfl
  walk_at "v"
  unfold dueZero at hp
  split
  · rename_i h
    rw [if_pos (by omega)] at hp
    exact hp _
  · rename_i h
    rw [if_neg (by omega)] at hp
    refine prim_sp (big_2000 hb) hl (fun as => ?_) _ rfl rfl
    exact hp _
end

section
variable {X : XP}
theorem pcommon_sp {a b : Int} {P : D → En → Prop} (hp : ∀ as, P (.int (Nat.gcd a.natAbs b.natAbs : Nat)) as) : sp X F_p_common [.dat (.int a), .dat (.int b)] P := by
  unfold F_p_common
  refine sp_runX (fun _ => rfl) ?_
  unfold b_p_common
  show wpB X _ [.dat (.int a), .dat (.int b), .emp, .emp] _ _
  refine wb_seqJ (fun ρ => ρ = [.dat (.int a), .dat (.int b), .dat (.int a.natAbs), .emp]) (by walk_at "v"; rw [abs_e]) ?_
  rintro _ rfl
  refine wb_seqJ (fun ρ => ρ = [.dat (.int a), .dat (.int b), .dat (.int a.natAbs), .dat (.int b.natAbs)]) (by walk_at "v"; rw [abs_e]) ?_
  rintro _ rfl
  rw [wb_seq]
  refine wb_while (fun n ρ => ∃ l r : Nat, ρ = [.dat (.int a), .dat (.int b), .dat (.int l), .dat (.int r)] ∧ Nat.gcd l r = Nat.gcd a.natAbs b.natAbs ∧ n = r) ⟨b.natAbs, by simp [fuelE]; omega, a.natAbs, b.natAbs, rfl, rfl, rfl⟩ ?_
  rintro n ρ ⟨l, r, rfl, hg, rfl⟩
  walk_at "v"
  by_cases h : n = 0
  · subst h
    rw [if_neg (by simp)]
    rw [Nat.gcd_zero_right] at hg
    rw [hg]
    exact hp _
  · rw [if_pos (by simp; omega)]
    refine ⟨decide_eq_true (by omega), l % n, Nat.mod_lt _ (by omega), n, l % n, ?_, ?_, rfl⟩
    · rw [Int.fmod_eq_emod_of_nonneg _ (by omega)]
      rfl
    · rw [← hg, Nat.gcd_comm l n, Nat.gcd_rec n l, Nat.gcd_comm]
/-- a point's numbers -/
def ptD (ns : List Int) (den : Int) : MO := .ins "Point" ["nums", "den", "dim"] [.tup (ns.map .int), .int den, .int ns.length]
def gcdP (den : Int) (xs : List Int) : Nat := List.foldl (fun g x => Nat.gcd g x.natAbs) den.natAbs xs
theorem gcdP_pos : ∀ (xs : List Int) (g : Nat), 0 < g → 0 < List.foldl (fun g x => Nat.gcd g x.natAbs) g xs
  | [], g, h => h
  | x :: xs, g, h => gcdP_pos xs _ (Nat.gcd_pos_of_pos_left _ h)
theorem gcdP_le : ∀ (xs : List Int) (g : Nat), 0 < g → List.foldl (fun g x => Nat.gcd g x.natAbs) g xs ≤ g
  | [], g, h => Nat.le_refl _
  | x :: xs, g, h => Nat.le_trans (gcdP_le xs _ (Nat.gcd_pos_of_pos_left _ h)) (Nat.le_of_dvd h (Nat.gcd_dvd_left _ _))
theorem s_nums : (("nums" : Str) = "nums") = True := eq_true rfl
theorem s_nd : (("nums" : Str) = "den") = False := eq_false (by decide +kernel)
theorem s_nm : (("nums" : Str) = "dim") = False := eq_false (by decide +kernel)
theorem s_dm : (("den" : Str) = "dim") = False := eq_false (by decide +kernel)
theorem putN0 {f : Str} {d : D} : putN f d [] [] = ([f], [d]) := (rfl)
theorem putN_ne {f n : Str} {d e : D} {ns : List Str} {ds : List D} (h : (n = f) = False) : putN f d (n :: ns) (e :: ds) = (n :: (putN f d ns ds).1, e :: (putN f d ns ds).2) := by
  show (if n = f then _ else _) = _
  rw [if_neg (by rw [h]; exact id)]
theorem lk0 {f : Str} {d : D} {ns : List Str} {ds : List D} : lkD f (f :: ns) (d :: ds) = some d := by
  show (if f = f then _ else _) = _
  rw [if_pos rfl]
theorem point_ok {xs : List Int} {den : Int} {d : D} {P : D → En → Prop} (hd : RowD xs d) (hb : den.natAbs < 2 ^ 2000) (h1 : 1 ≤ xs.length) (h2 : xs.length ≤ 4) (h3 : 1 ≤ den)
    (hp : P .non [.mu (ptD (xs.map fun x => x.fdiv (gcdP den xs : Nat)) (den.fdiv (gcdP den xs : Nat))), .dat d, .dat (.int den)]) : sp XF F_i_Point [.mu (.ins "Point" [] []), .dat d, .dat (.int den)] P := by
  have sz := sizeLine_ge
  unfold F_i_Point
  refine sp_run ?_
  unfold b_i_Point
  show wpB XF _ [.mu (.ins "Point" [] []), .dat d, .dat (.int den), .emp, .emp] _ _
  refine wb_seqJ (fun ρ => ρ = [.mu (.ins "Point" [] []), .dat d, .dat (.int den), .emp, .emp]) ?_ ?_
  · walk_at "v"
    rw [hd.len, ob_some]
    walk_at "v"
    rw [if_pos (by omega), if_neg (by omega)]
    trivial
  rintro _ rfl
  refine wb_seqJ (fun ρ => ρ = [.mu (.ins "Point" [] []), .dat d, .dat (.int den), .emp, .emp]) ?_ ?_
  · walk_at "v"
    rw [if_neg (by omega)]
    trivial
  rintro _ rfl
  refine wb_seqJ (fun ρ => ρ = [.mu (.ins "Point" [] []), .dat d, .dat (.int den), .dat (.int den), .emp]) ?_ ?_
  · walk_at "v"
  rintro _ rfl
  have g0 : 0 < gcdP den xs := gcdP_pos xs _ (by omega)
  have g1 : gcdP den xs ≤ den.natAbs := gcdP_le xs _ (by omega)
  refine wb_seqJ (fun ρ => ∃ x4, ρ = [.mu (.ins "Point" [] []), .dat d, .dat (.int den), .dat (.int (gcdP den xs : Nat)), x4]) ?_ ?_
  · walk_at "v"
    rw [hd.seq, ob_some]
    refine wb_forM D.int xs (fun i ρ => ∃ (g : Int) (x4 : Sl), ρ = [.mu (.ins "Point" [] []), .dat d, .dat (.int den), .dat (.int g), x4] ∧ g.natAbs = List.foldl (fun g x => Nat.gcd g x.natAbs) den.natAbs (xs.take i) ∧ 0 ≤ g) ⟨den, _, rfl, rfl, by omega⟩ ?_ ?_
    · rintro i y ρ hi ⟨g, x4, rfl, hg, hg0⟩
      rw [asg_nm, ob_some]
      walk_at "v"
      refine pcommon_sp fun as => ⟨_, _, rfl, ?_, by omega⟩
      rw [Int.natAbs_natCast, List.take_succ, hi, List.foldl_append, ← hg]
      rfl
    · rintro ρ ⟨g, x4, rfl, hg, hg0⟩
      rw [List.take_length] at hg
      refine ⟨x4, ?_⟩
      have : g = (gcdP den xs : Nat) := by
        unfold gcdP
        omega
      rw [this]
  rintro _ ⟨x4, rfl⟩
  have dv : ∀ x : Int, divC x (gcdP den xs : Nat) = true := fun x => divC_p (k := 2000) (by omega) (by rw [Int.natAbs_natCast]; omega)
  walk_at "v"
  rw [hd.seq, ob_some]
  refine ⟨by rw [List.length_map]; omega, wp_compP D.int (fun x => D.int (x.fdiv (gcdP den xs : Nat))) xs (fun x hx => ?_) ?_⟩
  · walk_at "v"
    exact dv x
  · walk_at "v"
    refine ⟨⟨by simp [fl_nums], by decide⟩, dv _, ⟨by simp [fl_den], by simp [putN0]⟩, ?_⟩
    simp only [putN0, putN_ne s_nd, fld_i, lk0]
    rw [if_pos (by simp [fl_nums])]
    walk_at "v"
    refine ⟨⟨by simp [fl_dim], by simp⟩, ?_⟩
    simp only [putN_ne s_nm, putN_ne s_dm, putN0]
    have := hp
    unfold ptD at this
    rw [List.map_map, List.length_map] at this
    exact this
end
theorem small_chars {i : Int} : ∀ c ∈ (Str.ofString (toString i)).cps.toList, c < 16 ^ 8 := by
  intro c hc
  rcases Nat.lt_or_ge c (16 ^ 8) with h | h
  · exact h
  · exact absurd hc (by
      have := PyProof.Rows.shown_int_free' (k := c) ⟨by omega, .inr (by omega)⟩ i
      rw [PyData.shown_int] at this
      exact this)
theorem tuple_chars {xs : List Int} : ∀ c ∈ (PyData.tuple (xs.map .int)).shown.cps.toList, c < 16 ^ 8 := by
  intro c hc
  rw [PyData.shown_tuple, PyProof.Rows.mem_cps_append, PyProof.Rows.mem_cps_append, PyProof.Rows.mem_join] at hc
  have hs : ∀ (s : Str) (l : List Nat), s.cps.toList = l → (∀ c ∈ l, c < 16 ^ 8) → c ∈ s.cps.toList → c < 16 ^ 8 := fun s l e h hc => h c (e ▸ hc)
  rcases hc with (hc | (⟨t, ht, hc⟩ | ⟨_, hc⟩)) | hc
  · rw [PyProof.Rows.signs_lparen] at hc
    cases List.mem_singleton.1 hc
    decide
  · rcases Nat.lt_or_ge c (16 ^ 8) with h | h
    · exact h
    · refine absurd hc (PyProof.Rows.shownAll_free (k := c) (xs := xs.map .int) (fun x hx => ?_) t ht)
      obtain ⟨y, _, rfl⟩ := List.mem_map.1 hx
      exact PyProof.Rows.shown_int_free' ⟨by omega, .inr (by omega)⟩ y
  · rw [PyProof.Rows.signs_sep] at hc
    simp only [List.mem_cons, List.not_mem_nil, or_false] at hc
    rcases hc with rfl | rfl <;> decide
  · split at hc
    · have e : (Str.ofString ",)").cps.toList = [44, 41] := by decide
      rw [e] at hc
      simp only [List.mem_cons, List.not_mem_nil, or_false] at hc
      rcases hc with rfl | rfl <;> decide
    · have e : (Str.ofString ")").cps.toList = [41] := by decide
      rw [e] at hc
      simp only [List.mem_cons, List.not_mem_nil, or_false] at hc
      cases hc
      decide

def KnE (e : D) : Prop := (∃ b, isiB cs .bl e = some b) ∧ ∃ b, isiB cs .int e = some b
def NVal (v : D) : Prop := (anyB cs v [.tup, .lst] = some false ∨ ∃ ds, (v = .lst ds ∨ v = .tup ds) ∧ (∀ e ∈ ds, KnE e) ∧ ∀ xs, ds = xs.map .int → VecL xs → gcdL xs ≠ 1) ∧ ∃ s, reprD v = some (.str s)
def okR (o : Option D) : Bool := match o with
  | some (.str _) => true
  | _ => false
theorem okR_ex {o : Option D} (h : okR o = true) : ∃ s, o = some (.str s) := by
  unfold okR at h
  split at h
  · exact ⟨_, rfl⟩
  · cases h
def nvB : D → Bool
  | .lst ds => (ds.all fun e => (isiB cs .bl e).isSome && (isiB cs .int e).isSome) && ds.any fun e => isiB cs .int e == some false || isiB cs .bl e == some true
  | .tup ds => (ds.all fun e => (isiB cs .bl e).isSome && (isiB cs .int e).isSome) && ds.any fun e => isiB cs .int e == some false || isiB cs .bl e == some true
  | d => anyB cs d [.tup, .lst] == some false
theorem bad_row {ds : List D} (h : ∃ e ∈ ds, isiB cs .int e = some false ∨ isiB cs .bl e = some true) : ∀ xs, ds = xs.map .int → VecL xs → gcdL xs ≠ 1 := by
  rintro xs rfl _
  obtain ⟨e, he, hb⟩ := h
  obtain ⟨x, _, rfl⟩ := List.mem_map.1 he
  rcases hb with hb | hb <;> cases hb
theorem nvB_ok {v : D} (h1 : nvB v = true) (h2 : okR (reprD v) = true) : NVal v := by
  refine ⟨?_, okR_ex h2⟩
  have row : ∀ ds : List D, ((ds.all fun e => (isiB cs .bl e).isSome && (isiB cs .int e).isSome) && ds.any fun e => isiB cs .int e == some false || isiB cs .bl e == some true) = true → (∀ e ∈ ds, KnE e) ∧ ∀ xs, ds = xs.map .int → VecL xs → gcdL xs ≠ 1 := by
    intro ds h
    simp only [Bool.and_eq_true, List.all_eq_true, List.any_eq_true, Bool.or_eq_true, beq_iff_eq, Option.isSome_iff_exists] at h
    exact ⟨fun e he => ⟨(h.1 e he).1, (h.1 e he).2⟩, bad_row h.2⟩
  cases v with
  | lst ds => exact .inr ⟨ds, .inl rfl, row ds h1⟩
  | tup ds => exact .inr ⟨ds, .inr rfl, row ds h1⟩
  | _ => exact .inl (by simpa [nvB] using h1)
theorem nval_isv {v : D} {X : XP} {P : D → En → Prop} (h : NVal v) (hp : ∀ as, P (.bl false) as) : sp X F_p_is_vector [.dat v] P := by
  rcases h.1 with h | ⟨ds, h1, h2, h3⟩
  · exact isv_non h hp
  · refine isv_sp h1 h2 (fun xs e hv as => ?_) fun _ => hp
    have := h3 xs e hv
    rw [decide_eq_false this]
    exact hp as
theorem odd_sp {n : Int} {m : MO} {P : D → En → Prop} (hm : Sto n m) (hn : n ≤ 700000000) (hp : ∀ v m', NVal v → Sto (n + 1) m' → P v [.mu m']) : sp XF F_w_odd [.mu m] P := by
  unfold F_w_odd
  refine sp_run ?_
  unfold b_w_odd
  show wpB XF _ [.mu m] _ _
  walk_at "v"
  refine ⟨by decide, by decide +kernel, pick_sp hm (by omega) (by simp) (by simp) fun x hx m1 h1 => ?_⟩
  walk_at "v"
  have hx2 : NVal x := by
    simp only [List.mem_cons, List.not_mem_nil, or_false] at hx
    rcases hx with rfl | rfl | rfl | rfl | rfl | rfl | rfl | rfl | rfl | rfl | rfl | rfl | rfl | rfl | rfl | rfl | rfl | rfl | rfl | rfl | rfl | rfl | rfl | rfl | rfl <;> exact nvB_ok (by decide +kernel) (by decide +kernel)
  exact hp x m1 hx2 h1
theorem rows_known {xs : List Int} : ∀ e ∈ xs.map D.int, KnE e := by
  intro e he
  obtain ⟨x, _, rfl⟩ := List.mem_map.1 he
  exact ⟨⟨_, rfl⟩, ⟨_, rfl⟩⟩
theorem shA_ints : ∀ {xs : List Int}, (∀ x ∈ xs, x.natAbs.log2 < 1920) → shA (xs.map .int)
  | [], _ => trivial
  | x :: xs, h => ⟨h x List.mem_cons_self, shA_ints fun y hy => h y (List.mem_cons_of_mem _ hy)⟩
theorem bkA_ints : ∀ xs : List Int, bkA (xs.map .int) = xs.length
  | [] => rfl
  | x :: xs => by
    show 0 + 1 + bkA (xs.map .int) = xs.length + 1
    rw [bkA_ints xs]
    omega
theorem dpA_ints : ∀ xs : List Int, dpA (xs.map .int) = 0
  | [] => rfl
  | x :: xs => by
    show max 0 (dpA (xs.map .int)) = 0
    rw [dpA_ints xs]
    rfl
theorem shA_app : ∀ {xs ys : List D}, shA (xs ++ ys) ↔ shA xs ∧ shA ys
  | [], ys => by simp [shA]
  | x :: xs, ys => by
    show shD x ∧ shA (xs ++ ys) ↔ (shD x ∧ shA xs) ∧ shA ys
    rw [shA_app, and_assoc]
theorem shA_set : ∀ {xs : List D} {k : Nat} {e : D}, shA xs → shD e → shA (xs.set k e)
  | [], _, _, h, _ => h
  | x :: xs, 0, e, h, he => ⟨he, h.2⟩
  | x :: xs, k + 1, e, h, he => ⟨h.1, shA_set h.2 he⟩
theorem bkA_set : ∀ {xs : List D} {k : Nat} {e : D}, bkA (xs.set k e) ≤ bkA xs + bkD e
  | [], _, _ => Nat.zero_le _
  | x :: xs, 0, e => by show bkD e + 1 + bkA xs ≤ bkD x + 1 + bkA xs + bkD e; omega
  | x :: xs, k + 1, e => by
    have := bkA_set (xs := xs) (k := k) (e := e)
    show bkD x + 1 + bkA (xs.set k e) ≤ bkD x + 1 + bkA xs + bkD e
    omega
theorem dpA_set : ∀ {xs : List D} {k : Nat} {e : D}, dpA (xs.set k e) ≤ max (dpA xs) (dpD e)
  | [], _, _ => Nat.zero_le _
  | x :: xs, 0, e => by show max (dpD e) (dpA xs) ≤ max (max (dpD x) (dpA xs)) (dpD e); omega
  | x :: xs, k + 1, e => by
    have := dpA_set (xs := xs) (k := k) (e := e)
    show max (dpD x) (dpA (xs.set k e)) ≤ max (max (dpD x) (dpA xs)) (dpD e)
    omega
theorem gcdL_mul_aux (k : Nat) : ∀ (xs : List Int) (g : Nat), k ∣ g → (∀ x ∈ xs, k ∣ x.natAbs) → k ∣ List.foldl (fun g x => Nat.gcd g x.natAbs) g xs
  | [], g, h, _ => h
  | x :: xs, g, h, hx => gcdL_mul_aux k xs _ (Nat.dvd_gcd h (hx x List.mem_cons_self)) fun y hy => hx y (List.mem_cons_of_mem _ hy)
theorem gcdL_mul {k : Nat} {xs : List Int} (h : ∀ x ∈ xs, k ∣ x.natAbs) : k ∣ gcdL xs := gcdL_mul_aux k xs 0 (Nat.dvd_zero _) h
theorem cps_size {s : Str} : s.cps.size = s.length := rfl
/-- a row of things, short enough to be shown -/
theorem nval_row {ds : List D} {v : D} (hv : v = .lst ds ∨ v = .tup ds) (hk : ∀ e ∈ ds, KnE e) (hn : ∀ xs, ds = xs.map .int → VecL xs → gcdL xs ≠ 1) (h1 : shA ds) (h2 : bkA ds ≤ 8000) (h3 : dpA ds ≤ 50) : NVal v := by
  refine ⟨.inr ⟨ds, hv, hk, hn⟩, ?_⟩
  rcases hv with rfl | rfl <;> exact repr_ok h1 h2 (by show dpA ds + 1 ≤ _; omega)
theorem at2 {x y z : D} {xs : List D} : atI (x :: y :: z :: xs) 2 = some z := at_g (k := 2) rfl
theorem repr_dic0 {z : Int} (hz : z.natAbs.log2 < 1920) : ∃ s, reprD (.dic [.inl 0] [.int z]) = some (.str s) := by
  have e : topD (.dic [.inl 0] [.int z]) = some (.dict [(.int 0, .int z)]) := by
    unfold topD
    simp only [pyKv, pyK, pyS]
    rw [if_pos (show (0 : Int).natAbs.log2 < 1920 by decide), if_pos hz]
  have h0 : (PyData.shown (.int 0)).length ≤ 1921 := PyProof.Rows.int_text_len_1921 (i := 0) (by decide)
  have h1 : (PyData.shown (.int z)).length ≤ 1921 := PyProof.Rows.int_text_len_1921 hz
  have hl := PyData.shown_le_bulk 1921 (by decide) (.dict [(.int 0, .int z)]) (by
    show (decide ((PyData.shown (.int 0)).length ≤ 1921) && decide ((PyData.shown (.int z)).length ≤ 1921) && true) = true
    rw [decide_eq_true h0, decide_eq_true h1]
    rfl)
  have hbk : (PyData.dict [(.int 0, .int z)]).bulk = 2 := rfl
  rw [hbk] at hl
  have hs : sizeLine = 16777216 := by decide +kernel
  refine ⟨(PyData.dict [(.int 0, .int z)]).shown, ?_⟩
  unfold reprD
  rw [e]
  have : reprOk (PyData.dict [(.int 0, .int z)]) = true := by
    unfold reprOk
    rw [decide_eq_true (show (PyData.dict [(.int 0, .int z)]).depth ≤ 100 by show max (max 0 0) 0 + 1 ≤ 100; decide), decide_eq_true (by omega)]
    rfl
  simp only
  rw [if_pos this]
theorem short13 : ∀ {xs : List Int}, (∀ x ∈ xs, -9 ≤ x ∧ x ≤ 9) → PyData.leavesShortAll 13 (xs.map .int) = true
  | [], _ => rfl
  | x :: xs, h => by
    show (decide ((PyData.shown (.int x)).length ≤ 13) && PyData.leavesShortAll 13 (xs.map .int)) = true
    rw [short13 fun y hy => h y (List.mem_cons_of_mem _ hy)]
    have h1 := PyProof.Rows.len_str_of_int x
    have h2 := h x List.mem_cons_self
    have h3 : (PyData.shown (.int x)).length = (Str.ofString (toString x)).length := by rw [PyData.shown_int]
    rw [decide_eq_true (by omega)]
    rfl
theorem bulkA_ints : ∀ xs : List Int, PyData.bulkAll (xs.map .int) = xs.length
  | [] => rfl
  | x :: xs => by
    show 0 + 1 + PyData.bulkAll (xs.map .int) = xs.length + 1
    rw [bulkA_ints xs]
    omega
theorem depthA_ints : ∀ xs : List Int, PyData.depthAll (xs.map .int) = 0
  | [] => rfl
  | x :: xs => by
    show max 0 (PyData.depthAll (xs.map .int)) = 0
    rw [depthA_ints xs]
    rfl
theorem repr_small {xs : List Int} (h : ∀ x ∈ xs, -9 ≤ x ∧ x ≤ 9) (hl : xs.length ≤ 4) : ∃ s, strD (.tup (xs.map .int)) = some (.str s) ∧ NVal (.str s) := by
  have hlog : ∀ x ∈ xs, x.natAbs.log2 < 1920 := fun x hx => by
    have := h x hx
    exact Nat.lt_of_le_of_lt (lgB (k := 10) (by omega)) (by decide)
  have e : topD (.tup (xs.map .int)) = some (.tuple (xs.map .int)) := by
    show pyD _ = _
    unfold pyD
    rw [pyA_ints hlog]
  have hk := PyData.shown_le_bulk 13 (by decide) (.tuple (xs.map .int)) (short13 h)
  have hbk : (PyData.tuple (xs.map .int)).bulk = xs.length := bulkA_ints xs
  have hdp : (PyData.tuple (xs.map .int)).depth = 1 := congrArg (· + 1) (depthA_ints xs)
  rw [hbk] at hk
  have hs : sizeLine = 16777216 := by decide +kernel
  refine ⟨(PyData.tuple (xs.map .int)).shown, ?_, .inl rfl, ?_⟩
  · show reprD _ = _
    unfold reprD
    rw [e]
    have : reprOk (PyData.tuple (xs.map .int)) = true := by
      unfold reprOk
      rw [decide_eq_true (by omega), decide_eq_true (by omega)]
      rfl
    simp only
    rw [if_pos this]
  · refine repr_ok tuple_chars ?_ (Nat.zero_le _)
    show (PyData.tuple (xs.map .int)).shown.length ≤ 8000
    omega
theorem near_sp {n d : Int} {m : MO} {P : D → En → Prop} (hm : Sto n m) (hn : n ≤ 500000000) (hd : 1 ≤ d) (hd2 : d ≤ 4)
    (hp : ∀ v m', NVal v → Sto (n + 30) m' → P v [.mu m', .dat (.int d)]) : sp XF F_w_near [.mu m, .dat (.int d)] P := by
  have sz := sizeLine_ge
  unfold F_w_near
  refine sp_run ?_
  unfold b_w_near
  show wpB XF _ [.mu m, .dat (.int d), .emp, .emp, .emp, .emp, .emp, .emp] _ _
  refine wb_seqJ (fun ρ => ∃ (m' : MO) (xs : List Int), ρ = [.mu m', .dat (.int d), .dat (.tup (xs.map .int)), .emp, .emp, .emp, .emp, .emp] ∧ Sto (n + 22) m' ∧ (xs.length : Int) = d ∧ (∀ x ∈ xs, -9 ≤ x ∧ x ≤ 9)) ?_ ?_
  · walk_at "v"
    refine vector_sp hm (by omega) hd (by omega) (by omega) (by omega) fun xs m' h1 hl hb hg => ?_
    walk_at "v"
    exact ⟨m', xs, rfl, h1, hl, hb⟩
  rintro _ ⟨m1, xs, rfl, h1, hl, hb⟩
  have hlog : ∀ x ∈ xs, x.natAbs.log2 < 1920 := fun x hx => by
    have := hb x hx
    exact Nat.lt_of_le_of_lt (lgB (k := 10) (by omega)) (by decide)
  refine wb_seqJ (fun ρ => ρ = [.mu m1, .dat (.int d), .dat (.tup (xs.map .int)), .own (.lst (xs.map .int)), .emp, .emp, .emp, .emp]) (by walk_at "v") ?_
  rintro _ rfl
  refine wb_seqJ (fun ρ => ∃ m' p, ρ = [.mu m', .dat (.int d), .dat (.tup (xs.map .int)), .own (.lst (xs.map .int)), .dat (.int p), .emp, .emp, .emp] ∧ Sto (n + 23) m' ∧ 0 ≤ p ∧ p < d) ?_ ?_
  · walk_at "v"
    refine take_sp h1 (by omega) (by omega) fun r m' h2 r0 r1 => ?_
    walk_at "v"
    exact ⟨m', r, rfl, h2.mono (by omega), r0, by omega⟩
  rintro _ ⟨m2, p, rfl, h2, p0, p1⟩
  refine wb_seqJ (fun ρ => ∃ m' c, ρ = [.mu m', .dat (.int d), .dat (.tup (xs.map .int)), .own (.lst (xs.map .int)), .dat (.int p), .dat (.int c), .emp, .emp] ∧ Sto (n + 24) m' ∧ 0 ≤ c ∧ c < 11) ?_ ?_
  · walk_at "v"
    refine take_sp h2 (by omega) (by omega) fun r m' h2 r0 r1 => ?_
    walk_at "v"
    exact ⟨m', r, rfl, h2.mono (by omega), r0, by omega⟩
  rintro _ ⟨m3, c, rfl, h3, c0, c1⟩
  obtain ⟨k, rfl⟩ := Int.eq_ofNat_of_zero_le p0
  have hk : k < xs.length := by omega
  have hxk := hb _ (List.getElem_mem hk)
  have hxkl : xs[k].natAbs.log2 < 1920 := hlog _ (List.getElem_mem hk)
  generalize hy : xs[k] = y at hxk hxkl
  have hget : atI (xs.map D.int) (k : Int) = some (.int y) := at_g (by rw [List.getElem?_map, List.getElem?_eq_getElem hk, hy]; rfl)
  have hx0 : 0 < xs.length := by omega
  have hxz := hb _ (List.getElem_mem hx0)
  have hxzl : xs[0].natAbs.log2 < 1920 := hlog _ (List.getElem_mem hx0)
  generalize hz : xs[0] = z at hxz hxzl
  have hget0 : atI (xs.map D.int) 0 = some (.int z) := at_g (k := 0) (by rw [List.getElem?_map, List.getElem?_eq_getElem hx0, hz]; rfl)
  have fin : ∀ (ds : List D) (x6 : Sl), (∀ v, (v = .lst ds ∨ v = .tup ds) → NVal v) → ∀ (s : Sl), (s = .dat (.lst ds) ∨ s = .own (.lst ds)) → wpB XF (vSeq (vIf (vTb (opv [.ex (vCallM F_w_take 0 [(ret (.int 2))]), .ex (ret (.int 0))] (o2 eqD))) (vRet (opv [.nm 3] (o1 tupD))) vNx)
    (vRet (vVar 3))) [.mu m3, .dat (.int d), .dat (.tup (xs.map .int)), s, .dat (.int k), .dat (.int c), x6, .emp] (fun ρ' => (match back [.mu m, .dat (.int d)] ρ' with
    | some as => P .non as
    | none => False)) fun d' ρ' => (match back [.mu m, .dat (.int d)] ρ' with
    | some as => P d' as
    | none => False) := by
    intro ds x6 hv s hs
    rcases hs with rfl | rfl
    · walk_at "v"
      refine take_sp h3 (by omega) (by omega) fun r m' h4 r0 r1 => ?_
      walk_at "v"
      split
      · exact hp _ _ (hv _ (.inr rfl)) (h4.mono (by omega))
      · exact hp _ _ (hv _ (.inl rfl)) (h4.mono (by omega))
    · walk_at "v"
      refine take_sp h3 (by omega) (by omega) fun r m' h4 r0 r1 => ?_
      walk_at "v"
      split
      · exact hp _ _ (hv _ (.inr rfl)) (h4.mono (by omega))
      · exact hp _ _ (hv _ (.inl rfl)) (h4.mono (by omega))
  refine wb_seqJ (fun ρ => ∃ ds x6 s, ρ = [.mu m3, .dat (.int d), .dat (.tup (xs.map .int)), s, .dat (.int k), .dat (.int c), x6, .emp] ∧ (∀ v, (v = .lst ds ∨ v = .tup ds) → NVal v) ∧ (s = .dat (.lst ds) ∨ s = .own (.lst ds))) ?_ ?_
  · walk_at "v"
    split
    · rw [hget]
      simp only [ob_some]
      have hst : strD (.int y) = some (.str (toString y)) := if_pos hxkl
      walk_at "v"
      rw [hst, ob_some]
      obtain ⟨e, he, e2⟩ := at_mem (xs := [D.bl (decide (y = 1)), .str (toString y), .tup [.int y], .non, .bl true]) c0 (by simp; omega)
      rw [e2, ob_some, ixN_n (by omega) (by omega), ob_some]
      refine ⟨_, _, _, rfl, fun v hv => ?_, .inr rfl⟩
      have kn : KnE e ∧ (isiB cs .int e = some false ∨ isiB cs .bl e = some true) ∧ shD e ∧ bkD e ≤ 2000 ∧ dpD e ≤ 2 := by
        simp only [List.mem_cons, List.not_mem_nil, or_false] at he
        rcases he with rfl | rfl | rfl | rfl | rfl
        · exact ⟨⟨⟨_, rfl⟩, ⟨_, rfl⟩⟩, .inr rfl, trivial, by show 0 ≤ _; omega, by show 0 ≤ _; omega⟩
        · exact ⟨⟨⟨_, rfl⟩, ⟨_, rfl⟩⟩, .inl rfl, small_chars, Nat.le_trans (PyProof.Rows.int_text_len_1921 hxkl) (by omega), by show 0 ≤ _; omega⟩
        · exact ⟨⟨⟨_, rfl⟩, ⟨_, rfl⟩⟩, .inl rfl, ⟨hxkl, trivial⟩, by show 1 ≤ _; omega, by show 1 ≤ _; omega⟩
        · exact ⟨⟨⟨_, rfl⟩, ⟨_, rfl⟩⟩, .inl rfl, trivial, by show 0 ≤ _; omega, by show 0 ≤ _; omega⟩
        · exact ⟨⟨⟨_, rfl⟩, ⟨_, rfl⟩⟩, .inr rfl, trivial, by show 0 ≤ _; omega, by show 0 ≤ _; omega⟩
      obtain ⟨k1, k2, k3, k4, k5⟩ := kn
      refine nval_row hv (fun e' he' => ?_) (bad_row ⟨e, List.mem_set (by rw [List.length_map]; omega) _, k2⟩) (shA_set (shA_ints hlog) k3) ?_ ?_
      · rcases List.mem_or_eq_of_mem_set he' with h | rfl
        · exact rows_known _ h
        · exact k1
      · have := bkA_set (xs := xs.map .int) (k := (k : Int).toNat) (e := e)
        rw [bkA_ints] at this
        omega
      · have := dpA_set (xs := xs.map .int) (k := (k : Int).toNat) (e := e)
        rw [dpA_ints] at this
        omega
    rename_i hc5
    split
    · rename_i hc8
      have e1 : List.map D.int xs ++ (List.replicate (5 - d).toNat [D.int 0]).flatten = (xs ++ List.replicate (5 - d).toNat 0).map D.int := by rw [rep1, List.map_append]
      rw [e1]
      refine ⟨⟨by omega, by omega, by rw [List.length_singleton]; omega⟩, by rw [List.length_map, List.length_append, List.length_replicate]; omega, by omega, wp_compP D.int (fun x => D.int (2 * x)) xs (fun x hx => ?_) ?_⟩
      · walk_at "v"
        have := hb x hx
        exact lgM (a := 2) (b := 10) (by decide) (lgB (by omega))
      · walk_at "v"
        rcases (by omega : c = 5 ∨ c = 6 ∨ c = 7) with rfl | rfl | rfl
        · rw [show ((5 : Int) - 5) = 0 from rfl, at0, ob_some]
          refine ⟨_, _, _, rfl, fun v hv => nval_row hv rows_known (fun ys e hv => ?_) (shA_ints fun x hx => ?_) ?_ ?_, .inl rfl⟩
          · have := congrArg List.length e
            rw [List.length_map, List.length_map, List.length_append, List.length_replicate] at this
            have := hv.2.1
            omega
          · rcases List.mem_append.1 hx with hx | hx
            · exact hlog x hx
            · cases (List.mem_replicate.1 hx).2
              decide
          · rw [bkA_ints, List.length_append, List.length_replicate]
            omega
          · rw [dpA_ints]
            omega
        · rw [show ((6 : Int) - 5) = 1 from rfl, at1, ob_some]
          refine ⟨_, _, _, rfl, fun v hv => ?_, .inl rfl⟩
          have e3 : (xs.map fun x => D.int (2 * x)) = (xs.map fun x => 2 * x).map D.int := by rw [List.map_map]; rfl
          rw [e3] at hv
          refine nval_row hv rows_known (fun ys e hv => ?_) (shA_ints fun x hx => ?_) ?_ ?_
          · have e4 : (xs.map fun x => 2 * x) = ys := by
              have := congrArg intsOf e
              rw [ints_of, ints_of] at this
              cases this
              rfl
            subst e4
            intro h1
            have : 2 ∣ gcdL (xs.map fun x => 2 * x) := gcdL_mul fun x hx => by
              obtain ⟨y, _, rfl⟩ := List.mem_map.1 hx
              rw [Int.natAbs_mul]
              exact Nat.dvd_mul_right _ _
            rw [h1] at this
            omega
          · obtain ⟨y, hy, rfl⟩ := List.mem_map.1 hx
            have := hb y hy
            exact Nat.lt_of_le_of_lt (lgB (k := 10) (by omega)) (by decide)
          · rw [bkA_ints, List.length_map]
            omega
          · rw [dpA_ints]
            omega
        · rw [show ((7 : Int) - 5) = 2 from rfl, at2, ob_some]
          refine ⟨[.tup (xs.map .int)], _, _, rfl, fun v hv => nval_row hv (fun e he => ?_) (bad_row ⟨_, List.mem_singleton.2 rfl, .inl rfl⟩) ⟨shA_ints hlog, trivial⟩ ?_ ?_, .inl rfl⟩
          · cases List.mem_singleton.1 he
            exact ⟨⟨_, rfl⟩, ⟨_, rfl⟩⟩
          · show bkA (xs.map .int) + 1 + 0 ≤ _
            rw [bkA_ints]
            omega
          · show max (dpA (xs.map .int) + 1) 0 ≤ _
            rw [dpA_ints]
            omega
    · rename_i hc8
      obtain ⟨s, hs, hns⟩ := repr_small hb (by omega)
      rw [hget0]
      simp only [ob_some, hs]
      refine ⟨⟨by simp, rfl, by decide⟩, odd_sp h3 (by omega) fun v m4 hv h4 => ?_⟩
      walk_at "v"
      refine pick_sp h4 (by omega) (by simp) (by simp) fun x hx m5 h5 => ?_
      walk_at "v"
      refine hp x m5 ?_ (h5.mono (by omega))
      simp only [List.mem_cons, List.not_mem_nil, or_false] at hx
      rcases hx with rfl | rfl | rfl
      · exact ⟨.inl rfl, repr_dic0 hxzl⟩
      · exact hns
      · exact hv
  rintro _ ⟨ds, x6, s, rfl, hv, hs⟩
  exact fin ds x6 hv s hs

/-- things that may be asked -/
structure Th (ts : List D) : Prop where
  l : ts.length ≤ 1000
  t : ∀ t ∈ ts, ∃ es, seqD t = some es ∧ es.length ≤ 70 ∧ ∀ e ∈ es, ∃ b, isiB cs .tup e = some b ∧ (b = true → ∃ ds, e = .tup ds)
  s : shA ts
  b : bkA ts ≤ 4000
  d : dpA ts ≤ 20
theorem Th.nil : Th [] := ⟨by decide, by simp, trivial, Nat.zero_le _, Nat.zero_le _⟩
theorem Th.ints {xs : List Int} {t : D} {ts : List D} (ht : RowD xs t) (hl : xs.length ≤ 70) (hx : ∀ x ∈ xs, x.natAbs < 2 ^ 200) (h : Th ts) (h1 : ts.length ≤ 10) (h2 : bkA ts ≤ 3000) : Th (t :: ts) := by
  have hs := shA_ints (big_log (B := 0) hx)
  have hb := bkA_ints xs
  have hd := dpA_ints xs
  refine ⟨by simp; omega, fun t' ht' => ?_, ⟨?_, h.s⟩, ?_, ?_⟩
  · rcases List.mem_cons.1 ht' with rfl | ht'
    · refine ⟨_, ht.seq, by rw [List.length_map]; omega, fun e he => ?_⟩
      obtain ⟨x, _, rfl⟩ := List.mem_map.1 he
      exact ⟨false, rfl, by simp⟩
    · exact h.t t' ht'
  · rcases ht with rfl | rfl <;> exact hs
  · rcases ht with rfl | rfl <;> (show bkA (xs.map .int) + 1 + bkA ts ≤ _; omega)
  · have := h.d
    rcases ht with rfl | rfl <;> (show max (dpA (xs.map .int) + 1) (dpA ts) ≤ _; omega)
theorem ask {n : Int} {m : MO} {deed : Str} {ts : List D} {due : D} {P : D → En → Prop} (hm : Sto n m) (hn : n ≤ 600000000) (h : Th ts) (hd1 : plD due) (hd2 : szD due < 200000)
    (htry : ∀ ys, A2 DrT ts ys → sp XF F_w_try [.dat (.str deed), .dat (.lst ys)] fun d _ => d = due)
    (hp : ∀ m', Sto (n + 72 * ts.length) m' → P (.bl true) [.mu m', .dat (.str deed), .dat (.lst ts), .dat due]) : sp XF F_w_asked [.mu m, .dat (.str deed), .dat (.lst ts), .dat due] P :=
  asked_sp hm hn h.l h.t h.s (Nat.le_trans h.b (by decide)) (Nat.le_trans h.d (by decide)) hd1 hd2 htry hp
theorem plA_ints : ∀ xs : List Int, plA (xs.map .int)
  | [] => trivial
  | x :: xs => ⟨trivial, plA_ints xs⟩
theorem szA_ints : ∀ xs : List Int, szA (xs.map .int) = xs.length
  | [] => rfl
  | x :: xs => by
    show 1 + szA (xs.map .int) = xs.length + 1
    rw [szA_ints xs]
    omega
theorem told_pl {d : D} (h : plD d) : plD (told d) := ⟨trivial, h, trivial⟩
theorem told_sz {d : D} : szD (told d) = szD d + 2 := by
  show 1 + (szD d + 0) + 1 = _
  omega
theorem ref_pl {c w : Str} : plD (refused c w) := ⟨trivial, trivial, trivial, trivial⟩
theorem ref_sz {c w : Str} : szD (refused c w) = 4 := rfl
theorem small200 {xs : List Int} {b : Int} (h : ∀ x ∈ xs, -b ≤ x ∧ x ≤ b) (hb : b ≤ 100000000000000000000000000000000) : ∀ x ∈ xs, x.natAbs < 2 ^ 200 := fun x hx => by
  have := h x hx
  have e : (2 : Nat) ^ 200 = 1606938044258990275541962092341162602522202993782792835301376 := by decide +kernel
  omega
theorem isv_ins {ns : List Str} {ds : List D} : anyB cs (.ins "Point" ns ds) [.tup, .lst] = some false := by
  simp [anyB, tb_ins_tup, tb_ins_lst, cs]
theorem kinds_sp {n : Int} {m : MO} {P : D → En → Prop} (hm : Sto n m) (hn : n ≤ 400000000) (hp : ∀ m', Sto (n + 1000) m' → P (.bl true) [.mu m']) : sp XF F_w_kinds [.mu m] P := by
  unfold F_w_kinds
  refine sp_run ?_
  unfold b_w_kinds
  show wpB XF _ [.mu m, .emp, .emp, .emp, .emp, .emp] _ _
  rw [wb_seq, wb_for]
  walk_at "v"
  refine ⟨by decide, ?_⟩
  rw [show Int.toNat 5 = 5 from rfl]
  refine wb_forR 5 (fun i ρ => ∃ m' x1 x2 x3 x4 x5, ρ = [.mu m', x1, x2, x3, x4, x5] ∧ Sto (n + 200 * i) m') ⟨m, _, _, _, _, _, rfl, hm.mono (by omega)⟩ ?_ ?_
  · rintro i ρ hi ⟨m1, x1, x2, x3, x4, x5, rfl, h1⟩
    rw [asg_nm, ob_some]
    refine wb_gen fun N R hN hR => ?_
    simp only [sk1]
    refine wb_seqJ (fun ρ => ∃ m' d, ρ = [.mu m', .dat (.int i), .dat (.int d), x3, x4, x5] ∧ Sto (n + 200 * i + 1) m' ∧ 1 ≤ d ∧ d ≤ 4) ?_ ?_
    · walk_at "v"
      refine take_sp h1 (by omega) (by omega) fun r m2 h2 r0 r1 => ?_
      walk_at "v"
      exact ⟨m2, 1 + r, rfl, h2, by omega, by omega⟩
    rintro _ ⟨m2, d, rfl, h2, d1, d2⟩
    refine wb_seqJ (fun ρ => ∃ m' v, ρ = [.mu m', .dat (.int i), .dat (.int d), .dat v, x4, x5] ∧ Sto (n + 200 * i + 31) m' ∧ NVal v) ?_ ?_
    · walk_at "v"
      refine near_sp h2 (by omega) d1 d2 fun v m3 hv h3 => ?_
      walk_at "v"
      exact ⟨m3, v, rfl, h3.mono (by omega), hv⟩
    rintro _ ⟨m3, v, rfl, h3, hv⟩
    obtain ⟨s, hs⟩ := hv.2
    refine wb_seqJ (fun ρ => ρ = [.mu m3, .dat (.int i), .dat (.int d), .dat v, .dat (.str s), x5]) ?_ ?_
    · walk_at "v"
      rw [hs, ob_some]
    rintro _ rfl
    refine wb_seqJ (fun ρ => ρ = [.mu m3, .dat (.int i), .dat (.int d), .dat v, .dat (.str s), x5]) ?_ ?_
    · walk_at "v"
      refine sp_imp (try_sp (P := fun z => z = told (.bl false)) (call_isv (nval_isv hv fun as as' => rfl))) ?_
      rintro _ as rfl
      refine alike_sp (told_pl trivial) (by rw [told_sz]; decide) fun as => ?_
      walk_at "v"
      rw [hs, ob_some]
      walk_at "v"
      simp
    rintro _ rfl
    refine wb_seqJ (fun ρ => ∃ m' xs, ρ = [.mu m', .dat (.int i), .dat (.int d), .dat v, .dat (.str s), .dat (.tup (List.map .int xs))] ∧ Sto (n + 200 * i + 53) m' ∧ (xs.length : Int) = d ∧ (∀ x ∈ xs, -9 ≤ x ∧ x ≤ 9) ∧ gcdL xs = 1) ?_ ?_
    · walk_at "v"
      refine vector_sp h3 (by omega) d1 (by omega) (by omega) (by omega) fun xs m4 h4 hl hb hg => ?_
      walk_at "v"
      exact ⟨m4, xs, rfl, h4.mono (by omega), hl, hb, hg⟩
    rintro _ ⟨m4, xs, rfl, h4, hl, hb, hg⟩
    refine wb_seqJ (fun ρ => ρ = [.mu m4, .dat (.int i), .dat (.int d), .dat v, .dat (.str s), .dat (.tup (List.map .int xs))]) ?_ ?_
    · walk_at "v"
      refine point_ok (xs := xs) (.inr rfl) (by decide) (by omega) (by omega) (by omega) ?_
      walk_at "v"
      refine sp_imp (try_sp (P := fun z => z = told (.bl false)) (call_isv (isv_non isv_ins fun as as' => rfl))) ?_
      rintro _ as rfl
      refine alike_sp (told_pl trivial) (by rw [told_sz]; decide) fun as => ?_
      walk_at "v"
      simp
    rintro _ rfl
    walk_at "v"
    refine ask h4 (by omega) (Th.ints (.inr rfl) (by omega) (small200 hb (by decide)) .nil (by decide) (Nat.zero_le _)) (told_pl (d := .bl true) trivial) (by rw [show D.tup [.str "told", .bl true] = told (.bl true) from rfl, told_sz]; decide) (fun ys hy => ?_) fun m5 h5 => ?_
    · obtain ⟨y, rfl, hz⟩ := a2_one hy
      have := try_isv (r := []) (drt_row hz) (by omega) (by omega)
      unfold dueIs at this
      rw [decide_eq_true ⟨hg, fun x hx => by have := hb x hx; omega⟩] at this
      exact this
    · walk_at "v"
      exact hN _ ⟨m5, _, _, _, _, _, rfl, h5.mono (by simp; omega)⟩
  · rintro ρ ⟨m1, x1, x2, x3, x4, x5, rfl, h1⟩
    walk_at "v"
    exact hp m1 (h1.mono (by omega))

theorem pow2 {i : Int} (h : i.natAbs < 2 ^ 1000) : powD (.int i) (.int 2) = some (.int (i ^ 2)) := by
  refine pw_of ?_ rfl
  unfold powC
  have e : Builtin.Int.intBits i ≤ 1001 := by
    unfold Builtin.Int.intBits
    split
    · omega
    · have := lgB h
      omega
  exact decide_eq_true ⟨by decide, by omega⟩
theorem perm_two {a b : D} {ys : List D} (h : ys.Perm [a, b]) : ys = [a, b] ∨ ys = [b, a] := by
  have hl := h.length_eq
  rcases ys with _ | ⟨x, _ | ⟨y, _ | ⟨z, r⟩⟩⟩
  · cases hl
  · cases hl
  · have hx : x ∈ [a, b] := h.subset List.mem_cons_self
    simp only [List.mem_cons, List.not_mem_nil, or_false] at hx
    rcases hx with rfl | rfl
    · have := (List.perm_cons x).1 h
      rw [List.perm_singleton] at this
      cases this
      exact .inl rfl
    · have := (List.perm_cons x).1 (h.trans (List.Perm.swap x a []))
      rw [List.perm_singleton] at this
      cases this
      exact .inr rfl
  · simp at hl
theorem bnd200 : (2 : Nat) ^ 200 = 1606938044258990275541962092341162602522202993782792835301376 := by decide +kernel
theorem dot_sum {xs ys : List Int} (h : xs.length = ys.length) : ((List.range xs.length).map fun k => (xs.getD k 0 + ys.getD k 0) ^ 2 - (xs.getD k 0 - ys.getD k 0) ^ 2).sum = 4 * dotL xs ys := by
  have e : ((List.range xs.length).map fun k => (xs.getD k 0 + ys.getD k 0) ^ 2 - (xs.getD k 0 - ys.getD k 0) ^ 2) = (xs.zip ys).map fun p => 4 * (p.1 * p.2) := by
    apply List.ext_getElem?
    intro k
    rw [List.getElem?_map, List.getElem?_map]
    by_cases hk : k < xs.length
    · have hk2 : k < ys.length := by omega
      have hz2 : (xs.zip ys)[k]? = some (xs[k], ys[k]) := List.getElem?_zip_eq_some.2 ⟨List.getElem?_eq_getElem hk, List.getElem?_eq_getElem hk2⟩
      rw [List.getElem?_range hk, hz2]
      simp only [Option.map_some, List.getD, List.getElem?_eq_getElem hk, List.getElem?_eq_getElem hk2, Option.getD_some]
      congr 1
      generalize xs[k] = a
      generalize ys[k] = b
      have : ∀ c : Int, c ^ 2 = c * c := fun c => by rw [Int.pow_succ, Int.pow_succ, Int.pow_zero, Int.one_mul]
      rw [this, this]
      simp only [Int.add_mul, Int.mul_add, Int.sub_mul, Int.mul_sub, Int.mul_comm b a]
      omega
    · rw [List.getElem?_eq_none (by rw [List.length_range]; omega), List.getElem?_eq_none (by rw [List.length_zip]; omega)]
      rfl
  rw [e]
  unfold dotL
  induction xs.zip ys with
  | nil => rfl
  | cons p r ih =>
    simp only [List.map_cons, List.sum_cons, ih]
    omega
theorem fdiv4 {x : Int} : (4 * x).fdiv 4 = x := by
  rw [Int.fdiv_eq_ediv_of_nonneg _ (by decide)]
  omega
abbrev BIG : Int := 10000000000000000000000000000000
theorem fm4 {a : Int} (h : 0 ≤ a) : a.fmod 4 = a % 4 := Int.fmod_eq_emod_of_nonneg _ (by decide)
theorem dots_sp {n : Int} {m : MO} {P : D → En → Prop} (hm : Sto n m) (hn : n ≤ 400000000) (hp : ∀ m', Sto (n + 3000) m' → P (.bl true) [.mu m']) : sp XF F_w_dots_told [.mu m] P := by
  have sz := sizeLine_ge
  unfold F_w_dots_told
  refine sp_run ?_
  unfold b_w_dots_told
  show wpB XF _ [.mu m, .emp, .emp, .emp, .emp, .emp, .emp, .emp] _ _
  rw [wb_seq, wb_for]
  walk_at "v"
  refine ⟨by decide, ?_⟩
  rw [show Int.toNat 3 = 3 from rfl]
  refine wb_forR 3 (fun i ρ => ∃ m' x1 x2 x3 x4 x5 x6, ρ = [.mu m', x1, x2, x3, x4, x5, x6, .emp] ∧ Sto (n + 1000 * i) m') ⟨m, _, _, _, _, _, _, rfl, hm.mono (by omega)⟩ ?_ ?_
  · rintro i ρ hi ⟨m1, x1, x2, x3, x4, x5, x6, rfl, h1⟩
    rw [asg_nm, ob_some]
    refine wb_gen fun N R hN hR => ?_
    simp only [sk1]
    refine wb_seqJ (fun ρ => ∃ m' d, ρ = [.mu m', .dat (.int i), .dat (.int d), x3, x4, x5, x6, .emp] ∧ Sto (n + 1000 * i + 1) m' ∧ 1 ≤ d ∧ d ≤ 4) ?_ ?_
    · walk_at "v"
      refine take_sp h1 (by omega) (by omega) fun r m2 h2 r0 r1 => ?_
      walk_at "v"
      exact ⟨m2, 1 + r, rfl, h2, by omega, by omega⟩
    rintro _ ⟨m2, d, rfl, h2, d1, d2⟩
    refine wb_seqJ (fun ρ => ∃ (m' : MO) (xs : List Int), ρ = [.mu m', .dat (.int i), .dat (.int d), .dat (.tup (xs.map .int)), x4, x5, x6, .emp] ∧ Sto (n + 1000 * i + 61) m' ∧ (xs.length : Int) = d ∧ ∀ x ∈ xs, -BIG ≤ x ∧ x ≤ BIG) ?_ ?_
    · walk_at "v"
      refine built_sp h2 (by omega) d1 (by omega) fun xs m3 h3 hl hb => ?_
      walk_at "v"
      exact ⟨m3, xs, rfl, h3.mono (by omega), hl, hb⟩
    rintro _ ⟨m3, xs, rfl, h3, hl, hb⟩
    refine wb_seqJ (fun ρ => ∃ (m' : MO) (ys : List Int), ρ = [.mu m', .dat (.int i), .dat (.int d), .dat (.tup (xs.map .int)), .dat (.tup (ys.map .int)), x5, x6, .emp] ∧ Sto (n + 1000 * i + 121) m' ∧ (ys.length : Int) = d ∧ ∀ x ∈ ys, -BIG ≤ x ∧ x ≤ BIG) ?_ ?_
    · walk_at "v"
      refine built_sp h3 (by omega) d1 (by omega) fun xs m3 h3 hl hb => ?_
      walk_at "v"
      exact ⟨m3, xs, rfl, h3.mono (by omega), hl, hb⟩
    rintro _ ⟨m4, ys, rfl, h4, hl2, hb2⟩
    have s1 := small200 hb (by decide)
    have s2 := small200 hb2 (by decide)
    have w1 := big_2000 s1
    have w2 := big_2000 s2
    refine wb_seqJ (fun ρ => ρ = [.mu m4, .dat (.int i), .dat (.int d), .dat (.tup (xs.map .int)), .dat (.tup (ys.map .int)), .dat (.int (dotL xs ys)), x6, .emp]) ?_ ?_
    · walk_at "v"
      have lr : (rngL 0 1 d.toNat).length = d.toNat := by simp [rngL]
      refine ⟨by omega, by rw [lr]; omega, ?_⟩
      refine wp_compR d.toNat (fun k pre ρ => ρ = [.mu m4, .dat (.int i), .dat (.int d), .dat (.tup (xs.map .int)), .dat (.tup (ys.map .int)), x5, x6, .emp] ∧ pre = (List.range k).map fun k => D.int ((xs.getD k 0 + ys.getD k 0) ^ 2 - (xs.getD k 0 - ys.getD k 0) ^ 2)) ⟨rfl, rfl⟩ ?_ ?_
      · rintro k pre ρ hk ⟨rfl, rfl⟩
        have k1 : k < xs.length := by omega
        have k2 : k < ys.length := by omega
        have g1 : atI (xs.map D.int) (k : Int) = some (.int (xs.getD k 0)) := at_g (by rw [List.getElem?_map, List.getD, List.getElem?_eq_getElem k1]; rfl)
        have g2 : atI (ys.map D.int) (k : Int) = some (.int (ys.getD k 0)) := at_g (by rw [List.getElem?_map, List.getD, List.getElem?_eq_getElem k2]; rfl)
        have b1 : -BIG ≤ xs.getD k 0 ∧ xs.getD k 0 ≤ BIG := by
          rw [List.getD, List.getElem?_eq_getElem k1]
          exact hb _ (List.getElem_mem k1)
        have b2 : -BIG ≤ ys.getD k 0 ∧ ys.getD k 0 ≤ BIG := by
          rw [List.getD, List.getElem?_eq_getElem k2]
          exact hb2 _ (List.getElem_mem k2)
        have hB : BIG = 10000000000000000000000000000000 := rfl
        have lt : ∀ z : Int, -2 * BIG ≤ z → z ≤ 2 * BIG → z.natAbs < 2 ^ 1000 := fun z h1 h2 => Nat.lt_of_lt_of_le (show z.natAbs < 2 ^ 200 by rw [bnd200]; omega) (Nat.pow_le_pow_right (by decide) (by decide))
        rw [asg_nm, ob_some]
        walk_at "v"
        simp only [g1, g2, ob_some]
        walk_at "v"
        rw [pow2 (lt _ (by omega) (by omega)), pow2 (lt _ (by omega) (by omega))]
        walk_at "v"
        rw [List.range_succ, List.map_append, List.map_singleton]
      · rintro es ρ ⟨rfl, rfl⟩
        walk_at "v"
        have e : ((List.range d.toNat).map fun k => D.int ((xs.getD k 0 + ys.getD k 0) ^ 2 - (xs.getD k 0 - ys.getD k 0) ^ 2)) = (((List.range xs.length).map fun k => (xs.getD k 0 + ys.getD k 0) ^ 2 - (xs.getD k 0 - ys.getD k 0) ^ 2)).map D.int := by
          rw [List.map_map, show d.toNat = xs.length by omega]
          rfl
        rw [e, sum_i, dot_sum (by omega), ob_some]
        walk_at "v"
        refine ⟨divC_p (k := 3) (by decide) (by decide), ?_⟩
        rw [fdiv4]
    rintro _ rfl
    refine wb_seqJ (fun ρ => ∃ m', ρ = [.mu m', .dat (.int i), .dat (.int d), .dat (.tup (xs.map .int)), .dat (.tup (ys.map .int)), .dat (.int (dotL xs ys)), x6, .emp] ∧ Sto (n + 1000 * i + 300) m') ?_ ?_
    · walk_at "v"
      have t1 := Th.ints (t := .tup (ys.map .int)) (.inr rfl) (by omega) s2 .nil (by simp) (Nat.zero_le _)
      have t2 : Th [.tup (xs.map .int), .tup (ys.map .int)] := Th.ints (.inr rfl) (by omega) s1 t1 (by simp) (by have := bkA_ints ys; show bkA (ys.map .int) + 1 + 0 ≤ _; omega)
      refine ask (due := told (.int (dotL xs ys))) h4 (by omega) t2 (told_pl trivial) (by rw [told_sz]; show 1 + 2 < _; decide) (fun zs hz => ?_) fun m5 h5 => ?_
      · obtain ⟨y, y', rfl, q1, q2⟩ := a2_two hz
        exact try_dot (drt_row q1) (drt_row q2) w1 w2 (by omega) (by omega) (by omega)
      · walk_at "v"
        exact ⟨m5, rfl, h5.mono (by simp; omega)⟩
    rintro _ ⟨m5, rfl, h5⟩
    refine wb_seqJ (fun ρ => ∃ (m' : MO) (zs : List Int), ρ = [.mu m', .dat (.int i), .dat (.int d), .dat (.tup (xs.map .int)), .dat (.tup (ys.map .int)), .dat (.int (dotL xs ys)), .dat (.tup (zs.map .int)), .emp] ∧ Sto (n + 1000 * i + 400) m' ∧ (zs.length : Int) ≠ d ∧ zs.length ≤ 4 ∧ ∀ x ∈ zs, -BIG ≤ x ∧ x ≤ BIG) ?_ ?_
    · walk_at "v"
      refine take_sp h5 (by omega) (by omega) fun r m6 h6 r0 r1 => ?_
      walk_at "v"
      have e4 := fm4 (a := d + r) (by omega)
      refine ⟨modC_p (by decide), built_sp h6 (by omega) (by omega) (by omega) fun zs m7 h7 hl3 hb3 => ?_⟩
      walk_at "v"
      exact ⟨m7, zs, rfl, h7.mono (by omega), by omega, by omega, hb3⟩
    rintro _ ⟨m6, zs, rfl, h6, hl3, hl4, hb3⟩
    have s3 := small200 hb3 (by decide)
    have w3 := big_2000 s3
    walk_at "v"
    refine mixed_sp h6 (by omega) (by simp) fun vs m7 hperm h7 => ?_
    walk_at "v"
    have key : ∀ (as bs : List Int), (as.length ≠ bs.length) → as.length ≤ 4 → bs.length ≤ 4 → (∀ x ∈ as, x.natAbs < 2 ^ 200) → (∀ x ∈ bs, x.natAbs < 2 ^ 200) → ∀ {m} {P : D → En → Prop}, Sto (n + 1000 * i + 500) m → (∀ m', Sto (n + 1000 * i + 900) m' → P (.bl true) [.mu m', .dat (.str "dot"), .dat (.lst [.tup (as.map .int), .tup (bs.map .int)]), .dat (refused "BadCall" "dim")]) → sp XF F_w_asked [.mu m, .dat (.str "dot"), .dat (.lst [.tup (as.map .int), .tup (bs.map .int)]), .dat (refused "BadCall" "dim")] P := by
      intro as bs hne l1 l2 sa sb m P hm hp
      have t1 := Th.ints (t := .tup (bs.map .int)) (.inr rfl) (by omega) sb .nil (by simp) (Nat.zero_le _)
      have t2 : Th [.tup (as.map .int), .tup (bs.map .int)] := Th.ints (.inr rfl) (by omega) sa t1 (by simp) (by have := bkA_ints bs; show bkA (bs.map .int) + 1 + 0 ≤ _; omega)
      refine ask hm (by omega) t2 ref_pl (by rw [ref_sz]; decide) (fun zs hz => ?_) fun m5 h5 => hp _ (h5.mono (by simp; omega))
      obtain ⟨y, y', rfl, q1, q2⟩ := a2_two hz
      exact try_dot_dim (drt_row q1) (drt_row q2) (big_2000 sa) (big_2000 sb) (.inr (.inr hne))
    have hN' : ∀ m', Sto (n + 1000 * i + 900) m' → N [.mu m', .dat (.int i), .dat (.int d), .dat (.tup (xs.map .int)), .dat (.tup (ys.map .int)), .dat (.int (dotL xs ys)), .dat (.tup (zs.map .int)), .emp] := fun m' h => hN _ ⟨m', _, _, _, _, _, _, rfl, h.mono (by omega)⟩
    have h7' := h7.mono (k := n + 1000 * i + 500) (by simp; omega)
    rcases perm_two hperm with rfl | rfl
    · refine key xs zs (by omega) (by omega) hl4 s1 s3 h7' fun m8 h8 => ?_
      walk_at "v"
      exact hN' m8 h8
    · refine key zs xs (by omega) hl4 (by omega) s3 s1 h7' fun m8 h8 => ?_
      walk_at "v"
      exact hN' m8 h8
  · rintro ρ ⟨m1, x1, x2, x3, x4, x5, x6, rfl, h1⟩
    walk_at "v"
    exact hp m1 (h1.mono (by omega))

def rowsD (rs : List (List Int)) : List D := rs.map fun r => .tup (r.map .int)
def RsOk (rs : List (List Int)) : Prop := ∀ r ∈ rs, r.length ≤ 6 ∧ ∀ x ∈ r, -BIG ≤ x ∧ x ≤ BIG
theorem rows_sh : ∀ {rs : List (List Int)}, RsOk rs → shA (rowsD rs) ∧ bkA (rowsD rs) ≤ 7 * rs.length ∧ dpA (rowsD rs) ≤ 1
  | [], _ => ⟨trivial, Nat.zero_le _, Nat.zero_le _⟩
  | r :: rs, h => by
    obtain ⟨h1, h2, h3⟩ := rows_sh (rs := rs) fun q hq => h q (List.mem_cons_of_mem _ hq)
    have h4 := h r List.mem_cons_self
    have s := shA_ints (big_log (B := 0) (small200 h4.2 (by decide)))
    refine ⟨⟨s, h1⟩, ?_, ?_⟩
    · show bkA (r.map .int) + 1 + bkA (rowsD rs) ≤ 7 * (rs.length + 1)
      rw [bkA_ints]
      omega
    · show max (dpA (r.map .int) + 1) (dpA (rowsD rs)) ≤ 1
      rw [dpA_ints]
      omega
theorem Th.rows {rs : List (List Int)} (hl : rs.length ≤ 70) (hr : RsOk rs) {ts : List D} (h : Th ts) (h1 : ts.length ≤ 10) (h2 : bkA ts ≤ 3000) : Th (.lst (rowsD rs) :: ts) := by
  obtain ⟨q1, q2, q3⟩ := rows_sh hr
  refine ⟨by simp; omega, fun t' ht' => ?_, ⟨q1, h.s⟩, ?_, ?_⟩
  · rcases List.mem_cons.1 ht' with rfl | ht'
    · refine ⟨_, rfl, by unfold rowsD; rw [List.length_map]; omega, fun e he => ?_⟩
      obtain ⟨x, _, rfl⟩ := List.mem_map.1 he
      exact ⟨true, rfl, fun _ => ⟨_, rfl⟩⟩
    · exact h.t t' ht'
  · show bkA (rowsD rs) + 1 + bkA ts ≤ _
    omega
  · have := h.d
    show max (dpA (rowsD rs) + 1) (dpA ts) ≤ _
    omega
theorem cut_drop {α : Type} {xs : List α} {k : Nat} : cutL xs (some (k : Int)) none = xs.drop k := by
  unfold cutL
  rw [HT.sIx_nat, HT.sIx_none]
  rcases Nat.le_total k xs.length with h | h
  · rw [Nat.min_eq_left h, List.take_of_length_le (by rw [List.length_drop]; omega)]
  · rw [Nat.min_eq_right h, List.drop_of_length_le h, List.drop_of_length_le (Nat.le_refl _), List.take_nil]
theorem cut_take {α : Type} {xs : List α} {k : Nat} : cutL xs none (some (k : Int)) = xs.take k := by
  unfold cutL
  rw [HT.sIx_nat, HT.sIx_none, List.drop_zero, Nat.sub_zero]
  rcases Nat.le_total k xs.length with h | h
  · rw [Nat.min_eq_left h]
  · rw [Nat.min_eq_right h, List.take_of_length_le (Nat.le_refl _), List.take_of_length_le h]
theorem sl_l {xs : List D} {a b : Option Int} : sliceD (.lst xs) a b = some (.lst (cutL xs a b)) := (rfl)
section
variable {ws : List Int} {rows : List (List Int)} {d e : D} {rs : List D}
theorem try_com {n : Nat} (hd : RowD ws d) (he : e = .lst rs ∨ e = .tup rs) (hr : A2 RowD rows rs) (h0 : rows.length ≤ 900) (hw : ∀ x ∈ ws, x.natAbs < 2 ^ 2000) (hb : ∀ r ∈ rows, ∀ x ∈ r, x.natAbs < 2 ^ 2000)
    (h1 : ∀ r ∈ rows, r.length = n) (h2 : 1 ≤ n) (h3 : n ≤ 4) (h4 : ws.length = rows.length) (h5 : rows ≠ []) : sp XF F_w_try [.dat (.str "combination"), .dat (.lst [d, e])] fun z _ => z = told (.tup ((comL n ws rows).map .int)) := by
  refine try_sp (call_com ?_)
  refine combination_sp (B := 0) hd he hr h0 hw hb (fun h => ?_) (fun h => absurd h h5) (fun _ h _ => absurd h4 h) fun n' g1 _ _ _ as as' => ?_
  · exfalso
    rcases h with ⟨r, hr, h⟩ | ⟨r, hr, r0, hr0, h⟩
    · have := h1 r hr; omega
    · have := h1 r hr; have := h1 r0 hr0; omega
  · cases rows with
    | nil => exact absurd rfl h5
    | cons r rows =>
      have := g1 r List.mem_cons_self
      have := h1 r List.mem_cons_self
      rw [show n' = n by omega]
      rfl
theorem try_com_w (hd : RowD ws d) (he : e = .lst rs ∨ e = .tup rs) (hr : A2 RowD rows rs) (h0 : rows.length ≤ 900) (hw : ∀ x ∈ ws, x.natAbs < 2 ^ 2000) (hb : ∀ r ∈ rows, ∀ x ∈ r, x.natAbs < 2 ^ 2000) {n : Nat}
    (h1 : ∀ r ∈ rows, r.length = n) (h2 : 1 ≤ n) (h3 : n ≤ 4) (h4 : ws.length ≠ rows.length) (h5 : rows ≠ []) : sp XF F_w_try [.dat (.str "combination"), .dat (.lst [d, e])] fun z _ => z = refused "BadCall" "weights" := by
  refine try_sp (call_com ?_)
  refine combination_sp (B := 0) hd he hr h0 hw hb (fun h => ?_) (fun h => absurd h h5) (fun _ h _ => xt rfl) fun n' g1 _ _ h => absurd h h4
  exfalso
  rcases h with ⟨r, hr, h⟩ | ⟨r, hr, r0, hr0, h⟩
  · have := h1 r hr; omega
  · have := h1 r hr; have := h1 r0 hr0; omega
theorem try_com_r (hd : RowD ws d) (he : e = .lst rs ∨ e = .tup rs) (hr : A2 RowD [] rs) (hw : ∀ x ∈ ws, x.natAbs < 2 ^ 2000) : sp XF F_w_try [.dat (.str "combination"), .dat (.lst [d, e])] fun z _ => z = refused "BadCall" "rows" := by
  refine try_sp (call_com ?_)
  cases hr
  have hp : XT (fun z => z = refused "BadCall" "rows") "BadCall" ["why"] [.str "rows"] := xt rfl
  unfold F_p_combination
  refine sp_runX (fun _ => rfl) ?_
  unfold b_p_combination
  show wpB _ _ [.dat d, .dat e, .emp, .emp, .emp, .emp, .emp] _ _
  have ln : lenD e = some (.int 0) := by rcases he with rfl | rfl <;> rfl
  refine wb_seqJ (fun ρ => ρ = [.dat d, .dat e, .emp, .emp, .emp, .emp, .emp]) ?_ ?_
  · walk_at "v"
    exact check_rows_sp he (by simp) (fun _ _ => trivial) (fun h => by simp at h)
  rintro _ rfl
  refine wb_seqJ (fun _ => False) ?_ (fun _ h => h.elim)
  walk_at "v"
  rw [ln, ob_some]
  walk_at "v"
  exact ⟨rfl, hp⟩
theorem try_com_d (hd : RowD ws d) (he : e = .lst rs ∨ e = .tup rs) (hr : A2 RowD rows rs) (h0 : rows.length ≤ 900) (hw : ∀ x ∈ ws, x.natAbs < 2 ^ 2000) (hb : ∀ r ∈ rows, ∀ x ∈ r, x.natAbs < 2 ^ 2000)
    (h1 : (∃ r ∈ rows, r.length < 1 ∨ 4 < r.length) ∨ ∃ r ∈ rows, ∃ r0 ∈ rows, r.length ≠ r0.length) : sp XF F_w_try [.dat (.str "combination"), .dat (.lst [d, e])] fun z _ => z = refused "BadCall" "dim" := by
  refine try_sp (call_com ?_)
  unfold F_p_combination
  refine sp_runX (fun _ => rfl) ?_
  unfold b_p_combination
  show wpB _ _ [.dat d, .dat e, .emp, .emp, .emp, .emp, .emp] _ _
  refine wb_seqJ (fun _ => False) ?_ (fun _ h => h.elim)
  walk_at "v"
  refine check_rows_sp he (fun r h => by obtain ⟨a, _, q⟩ := hr.mem h; exact q.row) (fun h _ => ?_) (fun _ => xt rfl)
  rcases h1 with ⟨r, hr1, h1⟩ | ⟨r, hr1, r0, hr2, h1⟩
  · obtain ⟨b, h2, h3⟩ := hr.mem' hr1
    have := h b h2
    rw [h3.ln] at this
    omega
  · obtain ⟨b, h2, h3⟩ := hr.mem' hr1
    obtain ⟨b', h4, h5⟩ := hr.mem' hr2
    have g1 := h b h2
    have g2 := h b' h4
    rw [h3.ln] at g1
    rw [h5.ln] at g2
    cases hh : rs[0]? with
    | none =>
      cases rs with
      | nil => cases h2
      | cons _ _ => cases hh
    | some z =>
      have := g1.2.2 z hh
      have := g2.2.2 z hh
      omega
end
theorem col_sum {ws : List Int} {rows : List (List Int)} {j : Nat} (h : ws.length = rows.length) : ((List.range ws.length).map fun k => ws.getD k 0 * (rows.getD k []).getD j 0).sum = colS ws rows j := by
  unfold colS
  congr 1
  apply List.ext_getElem?
  intro k
  rw [List.getElem?_map, List.getElem?_map]
  by_cases hk : k < ws.length
  · have hk2 : k < rows.length := by omega
    have hz2 : (ws.zip rows)[k]? = some (ws[k], rows[k]) := List.getElem?_zip_eq_some.2 ⟨List.getElem?_eq_getElem hk, List.getElem?_eq_getElem hk2⟩
    rw [List.getElem?_range hk, hz2]
    simp only [Option.map_some, List.getD, List.getElem?_eq_getElem hk, List.getElem?_eq_getElem hk2, Option.getD_some]
  · rw [List.getElem?_eq_none (by rw [List.length_range]; omega), List.getElem?_eq_none (by rw [List.length_zip]; omega)]
    rfl
theorem rowsD_app {a b : List (List Int)} : rowsD (a ++ b) = rowsD a ++ rowsD b := List.map_append
theorem drt_rows' {rs : List (List Int)} {y : D} (h : DrT (.lst (rowsD rs)) y) : ∃ es, A2 RowD rs es ∧ (y = .lst es ∨ y = .tup es) := drt_rows h
theorem sums_sp {n : Int} {m : MO} {P : D → En → Prop} (hm : Sto n m) (hn : n ≤ 400000000) (hp : ∀ m', Sto (n + 10000) m' → P (.bl true) [.mu m']) : sp XF F_w_sums_told [.mu m] P := by
  have sz : 100000 ≤ sizeLine := by decide +kernel
  unfold F_w_sums_told
  refine sp_run ?_
  unfold b_w_sums_told
  show wpB XF _ [.mu m, .emp, .emp, .emp, .emp, .emp, .emp, .emp, .emp, .emp, .emp, .emp] _ _
  refine wb_gen fun N R hN hR => ?_
  replace hp : ∀ m', Sto (n + 10000) m' → ∀ x1 x2 x3 x4 x5 x6 x7 x8 x9 x10 x11, R (.bl true) [.mu m', x1, x2, x3, x4, x5, x6, x7, x8, x9, x10, x11] := fun m' h _ _ _ _ _ _ _ _ _ _ _ => hR _ _ (hp m' h)
  refine wb_seqJ (fun ρ => ∃ m' d, ρ = [.mu m', .dat (.int d), .emp, .emp, .emp, .emp, .emp, .emp, .emp, .emp, .emp, .emp] ∧ Sto (n + 1) m' ∧ 1 ≤ d ∧ d ≤ 4) ?_ ?_
  · walk_at "v"
    refine take_sp hm (by omega) (by omega) fun r m2 h2 r0 r1 => ?_
    walk_at "v"
    exact ⟨m2, 1 + r, rfl, h2, by omega, by omega⟩
  rintro _ ⟨m1, d, rfl, h1, d1, d2⟩
  refine wb_seqJ (fun ρ => ∃ m' s, ρ = [.mu m', .dat (.int d), .dat (.int s), .emp, .emp, .emp, .emp, .emp, .emp, .emp, .emp, .emp] ∧ Sto (n + 2) m' ∧ 1 ≤ s ∧ s ≤ 6) ?_ ?_
  · walk_at "v"
    refine take_sp h1 (by omega) (by omega) fun r m2 h2 r0 r1 => ?_
    walk_at "v"
    exact ⟨m2, 1 + r, rfl, h2.mono (by omega), by omega, by omega⟩
  rintro _ ⟨m2, s0, rfl, h2, s1, s2⟩
  refine wb_seqJ (fun ρ => ∃ m' s, ρ = [.mu m', .dat (.int d), .dat (.int s), .emp, .emp, .emp, .emp, .emp, .emp, .emp, .emp, .emp] ∧ Sto (n + 3) m' ∧ 1 ≤ s ∧ s ≤ 60) ?_ ?_
  · walk_at "v"
    refine take_sp h2 (by omega) (by omega) fun r m2 h2 r0 r1 => ?_
    walk_at "v"
    split
    · exact ⟨m2, 60, rfl, h2.mono (by omega), by omega, by omega⟩
    · exact ⟨m2, s0, rfl, h2.mono (by omega), by omega, by omega⟩
  rintro _ ⟨m3, s, rfl, h3, s3, s4⟩
  have lr : (rngL 0 1 s.toNat).length = s.toNat := by simp [rngL]
  refine wb_seqJ (fun ρ => ∃ m' rs, ρ = [.mu m', .dat (.int d), .dat (.int s), .dat (.lst (rowsD rs)), .emp, .emp, .emp, .emp, .emp, .emp, .emp, .emp] ∧ Sto (n + 3700) m' ∧ (rs.length : Int) = s ∧ ∀ r ∈ rs, (r.length : Int) = d ∧ ∀ x ∈ r, -BIG ≤ x ∧ x ≤ BIG) ?_ ?_
  · walk_at "v"
    refine ⟨by omega, by rw [lr]; omega, ?_⟩
    refine wp_compR s.toNat (fun k pre ρ => ∃ m' rs, ρ = [.mu m', .dat (.int d), .dat (.int s), .emp, .emp, .emp, .emp, .emp, .emp, .emp, .emp, .emp] ∧ pre = rowsD rs ∧ rs.length = k ∧ Sto (n + 3 + 60 * k) m' ∧ ∀ r ∈ rs, (r.length : Int) = d ∧ ∀ x ∈ r, -BIG ≤ x ∧ x ≤ BIG) ⟨m3, [], rfl, rfl, rfl, h3.mono (by omega), by simp⟩ ?_ ?_
    · rintro k pre ρ hk ⟨m4, rs, rfl, rfl, hl, h4, hr⟩
      rw [asg_nm, ob_some]
      walk_at "v"
      refine built_sp h4 (by omega) (by omega) (by omega) fun xs m5 h5 hl5 hb5 => ?_
      walk_at "v"
      refine ⟨m5, rs ++ [xs], rfl, by rw [rowsD_app]; rfl, by simp; omega, h5.mono (by omega), fun r hr' => ?_⟩
      rcases List.mem_append.1 hr' with hr' | hr'
      · exact hr r hr'
      · cases List.mem_singleton.1 hr'
        exact ⟨hl5, hb5⟩
    · rintro es ρ ⟨m4, rs, rfl, rfl, hl, h4, hr⟩
      walk_at "v"
      exact ⟨m4, rs, rfl, h4.mono (by omega), by omega, hr⟩
  rintro _ ⟨m4, rs, rfl, h4, hrl, hr⟩
  refine wb_seqJ (fun ρ => ∃ m' ws, ρ = [.mu m', .dat (.int d), .dat (.int s), .dat (.lst (rowsD rs)), .dat (.lst (List.map .int ws)), .emp, .emp, .emp, .emp, .emp, .emp, .emp] ∧ Sto (n + 4200) m' ∧ (ws.length : Int) = s ∧ ∀ x ∈ ws, -BIG ≤ x ∧ x ≤ BIG) ?_ ?_
  · walk_at "v"
    refine ⟨by omega, by rw [lr]; omega, ?_⟩
    refine wp_compR s.toNat (fun k pre ρ => ∃ m' ws, ρ = [.mu m', .dat (.int d), .dat (.int s), .dat (.lst (rowsD rs)), .emp, .emp, .emp, .emp, .emp, .emp, .emp, .emp] ∧ pre = List.map D.int ws ∧ ws.length = k ∧ Sto (n + 3700 + 7 * k) m' ∧ ∀ x ∈ ws, -BIG ≤ x ∧ x ≤ BIG) ⟨m4, [], rfl, rfl, rfl, h4.mono (by omega), by simp⟩ ?_ ?_
    · rintro k pre ρ hk ⟨m5, ws, rfl, rfl, hl, h5, hw⟩
      rw [asg_nm, ob_some]
      walk_at "v"
      refine number_sp h5 (by omega) fun x m6 h6 x0 x1 => ?_
      walk_at "v"
      have hB : BIG = 10000000000000000000000000000000 := rfl
      refine ⟨m6, ws ++ [x], rfl, by rw [List.map_append]; rfl, by simp; omega, h6.mono (by omega), fun r hr' => ?_⟩
      rcases List.mem_append.1 hr' with hr' | hr'
      · exact hw r hr'
      · cases List.mem_singleton.1 hr'
        omega
    · rintro es ρ ⟨m5, ws, rfl, rfl, hl, h5, hw⟩
      walk_at "v"
      exact ⟨m5, ws, rfl, h5.mono (by omega), by omega, hw⟩
  rintro _ ⟨m5, ws, rfl, h5, hwl, hw⟩
  have hro : RsOk rs := fun r h => ⟨by have := hr r h; omega, (hr r h).2⟩
  have sw := small200 hw (by decide)
  have sr : ∀ r ∈ rs, ∀ x ∈ r, x.natAbs < 2 ^ 200 := fun r h => small200 (hr r h).2 (by decide)
  have br : ∀ r ∈ rs, ∀ x ∈ r, x.natAbs < 2 ^ 2000 := fun r h => big_2000 (sr r h)
  have hrd : ∀ r ∈ rs, r.length = d.toNat := fun r h => by have := (hr r h).1; omega
  have hne : rs ≠ [] := by rintro rfl; simp at hrl; omega
  refine wb_seqJ (fun ρ => ρ = [.mu m5, .dat (.int d), .dat (.int s), .dat (.lst (rowsD rs)), .dat (.lst (List.map .int ws)), .dat (.tup ((comL d.toNat ws rs).map .int)), .emp, .emp, .emp, .emp, .emp, .emp]) ?_ ?_
  · walk_at "v"
    have ld : (rngL 0 1 d.toNat).length = d.toNat := by simp [rngL]
    refine ⟨by omega, by rw [ld]; omega, ?_⟩
    refine wp_compR d.toNat (fun j pre ρ => ρ = [.mu m5, .dat (.int d), .dat (.int s), .dat (.lst (rowsD rs)), .dat (.lst (List.map .int ws)), .emp, .emp, .emp, .emp, .emp, .emp, .emp] ∧ pre = ((List.range j).map (colS ws rs)).map D.int) ⟨rfl, rfl⟩ ?_ ?_
    · rintro j pre ρ hj ⟨rfl, rfl⟩
      rw [asg_nm, ob_some]
      walk_at "v"
      refine ⟨by omega, by rw [lr]; omega, ?_⟩
      refine wp_compR s.toNat (fun k pre ρ => ρ = [.mu m5, .dat (.int d), .dat (.int s), .dat (.lst (rowsD rs)), .dat (.lst (List.map .int ws)), .emp, .emp, .emp, .emp, .emp, .emp, .dat (.int j)] ∧ pre = ((List.range k).map fun k => ws.getD k 0 * (rs.getD k []).getD j 0).map D.int) ⟨rfl, rfl⟩ ?_ ?_
      · rintro k pre ρ hk ⟨rfl, rfl⟩
        have k1 : k < ws.length := by omega
        have k2 : k < rs.length := by omega
        have hrk := hr _ (List.getElem_mem k2)
        have k3 : j < rs[k].length := by omega
        have g1 : atI (ws.map D.int) (k : Int) = some (.int (ws.getD k 0)) := at_g (by rw [List.getElem?_map, List.getD, List.getElem?_eq_getElem k1]; rfl)
        have g2 : atI (rowsD rs) (k : Int) = some (.tup ((rs.getD k []).map .int)) := at_g (by unfold rowsD; rw [List.getElem?_map, List.getD, List.getElem?_eq_getElem k2]; rfl)
        have e3 : rs.getD k [] = rs[k] := by rw [List.getD, List.getElem?_eq_getElem k2]; rfl
        have g3 : atI ((rs.getD k []).map D.int) (j : Int) = some (.int ((rs.getD k []).getD j 0)) := at_g (by rw [e3, List.getElem?_map, List.getD, List.getElem?_eq_getElem k3]; rfl)
        have b1 : (ws.getD k 0).natAbs < 2 ^ 200 := by
          rw [List.getD, List.getElem?_eq_getElem k1]
          exact sw _ (List.getElem_mem k1)
        have b2 : ((rs.getD k []).getD j 0).natAbs < 2 ^ 200 := by
          rw [e3, List.getD, List.getElem?_eq_getElem k3]
          exact sr _ (List.getElem_mem k2) _ (List.getElem_mem k3)
        rw [asg_nm, ob_some]
        walk_at "v"
        simp only [g1, g2, ob_some, ix_t, g3]
        walk_at "v"
        refine ⟨lgM (lgB b1) (lgB b2), ?_⟩
        rw [List.range_succ, List.map_append, List.map_append]
        rfl
      · rintro es ρ ⟨rfl, rfl⟩
        walk_at "v"
        rw [sum_i, ob_some, show s.toNat = ws.length by omega, col_sum (by omega)]
        rw [List.range_succ, List.map_append, List.map_append]
        try rfl
    · rintro es ρ ⟨rfl, rfl⟩
      walk_at "v"
      rfl
  rintro _ rfl
  have key : ∀ (sq : List Int) (bs : List (List Int)) (due : D) (k : Int) {m : MO} {P : D → En → Prop}, sq.length ≤ 61 → (∀ x ∈ sq, x.natAbs < 2 ^ 200) → bs.length ≤ 61 → RsOk bs → plD due → szD due < 200000 → Sto k m → k ≤ n + 9000 →
      (∀ y es z, RowD sq y → A2 RowD bs es → (z = .lst es ∨ z = .tup es) → sp XF F_w_try [.dat (.str "combination"), .dat (.lst [y, z])] fun d _ => d = due) →
      (∀ m', Sto (k + 144) m' → P (.bl true) [.mu m', .dat (.str "combination"), .dat (.lst [.lst (sq.map .int), .lst (rowsD bs)]), .dat due]) → sp XF F_w_asked [.mu m, .dat (.str "combination"), .dat (.lst [.lst (sq.map .int), .lst (rowsD bs)]), .dat due] P := by
    intro sq bs due k m P l1 b1 l2 b2 hd1 hd2 hm hk htry hp
    have t1 : Th [.lst (rowsD bs)] := Th.rows (by omega) b2 .nil (by simp) (Nat.zero_le _)
    have hb := (rows_sh b2).2.1
    have t2 : Th [.lst (sq.map .int), .lst (rowsD bs)] := Th.ints (.inl rfl) (by omega) b1 t1 (by simp) (by show bkA (rowsD bs) + 1 + 0 ≤ _; omega)
    refine ask hm (by omega) t2 hd1 hd2 (fun ys hy => ?_) hp
    obtain ⟨y, z, rfl, q1, q2⟩ := a2_two hy
    obtain ⟨es, q3, q4⟩ := drt_rows' q2
    exact htry y es z (drt_rowl q1) q3 q4
  have hsr : szA ((comL d.toNat ws rs).map .int) ≤ 4 := by
    rw [szA_ints]
    unfold comL
    rw [List.length_map, List.length_range]
    omega
  let E (m : MO) (x6 x7 x8 x9 : Sl) : En := [.mu m, .dat (.int d), .dat (.int s), .dat (.lst (rowsD rs)), .dat (.lst (List.map .int ws)), .dat (.tup ((comL d.toNat ws rs).map .int)), x6, x7, x8, x9, .emp, .emp]
  refine wb_seqJ (fun ρ => ∃ m', ρ = E m' .emp .emp .emp .emp ∧ Sto (n + 4400) m') ?_ ?_
  · walk_at "v"
    refine key ws rs (told (.tup ((comL d.toNat ws rs).map .int))) _ (by omega) sw (by omega) hro (told_pl (plA_ints _)) (by rw [told_sz]; show szA _ + 1 + 2 < _; omega) h5 (by omega) (fun y es z q1 q2 q3 => try_com q1 q3 q2 (by omega) (big_2000 sw) br hrd (by omega) (by omega) (by omega) hne) fun m6 h6 => ?_
    walk_at "v"
    exact ⟨m6, rfl, h6.mono (by omega)⟩
  rintro _ ⟨m6, rfl, h6⟩
  refine wb_seqJ (fun ρ => ∃ m' sq, ρ = E m' (.dat (.lst (List.map .int sq))) .emp .emp .emp ∧ Sto (n + 4401) m' ∧ sq.length ≤ 61 ∧ (sq.length : Int) ≠ s ∧ ∀ x ∈ sq, x.natAbs < 2 ^ 200) ?_ ?_
  · show wpB XF _ [.mu m6, .dat (.int d), .dat (.int s), .dat (.lst (rowsD rs)), .dat (.lst (List.map .int ws)), .dat (.tup ((comL d.toNat ws rs).map .int)), .emp, .emp, .emp, .emp, .emp, .emp] _ _
    walk_at "v"
    simp only [sl_l, ob_some]
    refine ⟨by simp; omega, pick_sp h6 (by omega) (by simp) (by simp) fun x hx m7 h7 => ?_⟩
    walk_at "v"
    simp only [List.mem_cons, List.not_mem_nil, or_false] at hx
    rcases hx with rfl | rfl | rfl
    · refine ⟨m7, ws ++ [0], by rw [List.map_append]; rfl, h7.mono (by omega), by simp; omega, by simp; omega, fun x hx => ?_⟩
      rcases List.mem_append.1 hx with hx | hx
      · exact sw x hx
      · cases List.mem_singleton.1 hx
        decide
    · refine ⟨m7, ws.drop 1, by rw [show (1 : Int) = ((1 : Nat) : Int) from rfl, cut_drop, List.map_drop], h7.mono (by omega), by rw [List.length_drop]; omega, by rw [List.length_drop]; omega, fun x hx => sw x (List.mem_of_mem_drop hx)⟩
    · exact ⟨m7, [], rfl, h7.mono (by omega), by simp, by simp; omega, by simp⟩
  rintro _ ⟨m7, sq, rfl, h7, l7, n7, b7⟩
  refine wb_seqJ (fun ρ => ∃ m', ρ = E m' (.dat (.lst (List.map .int sq))) .emp .emp .emp ∧ Sto (n + 4600) m') ?_ ?_
  · show wpB XF _ [.mu m7, .dat (.int d), .dat (.int s), .dat (.lst (rowsD rs)), .dat (.lst (List.map .int ws)), .dat (.tup ((comL d.toNat ws rs).map .int)), .dat (.lst (List.map .int sq)), .emp, .emp, .emp, .emp, .emp] _ _
    walk_at "v"
    refine key sq rs (refused "BadCall" "weights") _ (by omega) b7 (by omega) hro ref_pl (by rw [ref_sz]; decide) h7 (by omega) (fun y es z q1 q2 q3 => try_com_w q1 q3 q2 (by omega) (big_2000 b7) br hrd (by omega) (by omega) (by omega) hne) fun m6 h6 => ?_
    walk_at "v"
    exact ⟨m6, rfl, h6.mono (by omega)⟩
  rintro _ ⟨m8, rfl, h8⟩
  refine wb_seqJ (fun ρ => ∃ m' sq, ρ = E m' (.dat (.lst (List.map .int sq))) .emp .emp .emp ∧ Sto (n + 4601) m' ∧ sq.length ≤ 61 ∧ ∀ x ∈ sq, x.natAbs < 2 ^ 200) ?_ ?_
  · show wpB XF _ [.mu m8, .dat (.int d), .dat (.int s), .dat (.lst (rowsD rs)), .dat (.lst (List.map .int ws)), .dat (.tup ((comL d.toNat ws rs).map .int)), .dat (.lst (List.map .int sq)), .emp, .emp, .emp, .emp, .emp] _ _
    walk_at "v"
    refine pick_sp h8 (by omega) (by simp) (by simp) fun x hx m7 h7 => ?_
    walk_at "v"
    simp only [List.mem_cons, List.not_mem_nil, or_false] at hx
    rcases hx with rfl | rfl | rfl
    · exact ⟨m7, [], rfl, h7.mono (by omega), by simp, by simp⟩
    · exact ⟨m7, [1], rfl, h7.mono (by omega), by simp, by intro x hx; cases List.mem_singleton.1 hx; decide⟩
    · exact ⟨m7, ws, rfl, h7.mono (by omega), by omega, sw⟩
  rintro _ ⟨m9, sq2, rfl, h9, l9, b9⟩
  refine wb_seqJ (fun ρ => ∃ m', ρ = E m' (.dat (.lst (List.map .int sq2))) .emp .emp .emp ∧ Sto (n + 4800) m') ?_ ?_
  · show wpB XF _ [.mu m9, .dat (.int d), .dat (.int s), .dat (.lst (rowsD rs)), .dat (.lst (List.map .int ws)), .dat (.tup ((comL d.toNat ws rs).map .int)), .dat (.lst (List.map .int sq2)), .emp, .emp, .emp, .emp, .emp] _ _
    walk_at "v"
    refine key sq2 [] (refused "BadCall" "rows") _ (by omega) b9 (by simp) (by intro r hr; cases hr) ref_pl (by rw [ref_sz]; decide) h9 (by omega) (fun y es z q1 q2 q3 => try_com_r q1 q3 q2 (big_2000 b9)) fun m6 h6 => ?_
    walk_at "v"
    exact ⟨m6, rfl, h6.mono (by omega)⟩
  rintro _ ⟨m10, rfl, h10⟩
  refine wb_seqJ (fun ρ => ∃ (m' : MO) (p : Nat), ρ = E m' (.dat (.lst (List.map .int sq2))) (.dat (.int p)) .emp .emp ∧ Sto (n + 4801) m' ∧ p ≤ rs.length) ?_ ?_
  · show wpB XF _ [.mu m10, .dat (.int d), .dat (.int s), .dat (.lst (rowsD rs)), .dat (.lst (List.map .int ws)), .dat (.tup ((comL d.toNat ws rs).map .int)), .dat (.lst (List.map .int sq2)), .emp, .emp, .emp, .emp, .emp] _ _
    walk_at "v"
    refine take_sp h10 (by omega) (by omega) fun r m7 h7 r0 r1 => ?_
    walk_at "v"
    obtain ⟨p, rfl⟩ := Int.eq_ofNat_of_zero_le r0
    exact ⟨m7, p, rfl, h7.mono (by omega), by omega⟩
  rintro _ ⟨m11, p, rfl, h11, hp1⟩
  refine wb_seqJ (fun ρ => ∃ m' o, ρ = E m' (.dat (.lst (List.map .int sq2))) (.dat (.int p)) (.dat (.tup (List.map .int o))) .emp ∧ Sto (n + 4900) m' ∧ (o.length : Int) ≠ d ∧ o.length ≤ 5 ∧ ∀ x ∈ o, -BIG ≤ x ∧ x ≤ BIG) ?_ ?_
  · show wpB XF _ [.mu m11, .dat (.int d), .dat (.int s), .dat (.lst (rowsD rs)), .dat (.lst (List.map .int ws)), .dat (.tup ((comL d.toNat ws rs).map .int)), .dat (.lst (List.map .int sq2)), .dat (.int p), .emp, .emp, .emp, .emp] _ _
    walk_at "v"
    refine take_sp h11 (by omega) (by omega) fun r m6 h6 r0 r1 => ?_
    walk_at "v"
    have e4 := fm4 (a := d + r) (by omega)
    refine ⟨modC_p (by decide), built_sp h6 (by omega) (by omega) (by omega) fun zs m7 h7 hl3 hb3 => ?_⟩
    walk_at "v"
    exact ⟨m7, zs, rfl, h7.mono (by omega), by omega, by omega, hb3⟩
  rintro _ ⟨m12, o, rfl, h12, o1, o2, o3⟩
  refine wb_seqJ (fun ρ => ∃ m' o, ρ = E m' (.dat (.lst (List.map .int sq2))) (.dat (.int p)) (.dat (.tup (List.map .int o))) .emp ∧ Sto (n + 4902) m' ∧ (o.length : Int) ≠ d ∧ o.length ≤ 5 ∧ ∀ x ∈ o, -BIG ≤ x ∧ x ≤ BIG) ?_ ?_
  · show wpB XF _ [.mu m12, .dat (.int d), .dat (.int s), .dat (.lst (rowsD rs)), .dat (.lst (List.map .int ws)), .dat (.tup ((comL d.toNat ws rs).map .int)), .dat (.lst (List.map .int sq2)), .dat (.int p), .dat (.tup (List.map .int o)), .emp, .emp, .emp] _ _
    walk_at "v"
    refine take_sp h12 (by omega) (by omega) fun r m6 h6 r0 r1 => ?_
    walk_at "v"
    split
    · refine pick_sp h6 (by omega) (by simp) (by simp) fun x hx m7 h7 => ?_
      walk_at "v"
      simp only [List.mem_cons, List.not_mem_nil, or_false] at hx
      rcases hx with rfl | rfl
      · exact ⟨m7, [], rfl, h7.mono (by omega), by simp; omega, by simp, by simp⟩
      · exact ⟨m7, [1, 0, 0, 0, 0], rfl, h7.mono (by omega), by simp; omega, by simp, by intro x hx; simp only [List.mem_cons, List.not_mem_nil, or_false] at hx; rcases hx with rfl | rfl | rfl | rfl | rfl <;> decide⟩
    · exact ⟨m6, o, rfl, h6.mono (by omega), o1, o2, o3⟩
  rintro _ ⟨m13, q, rfl, h13, q1, q2, q3⟩
  let bs : List (List Int) := rs.take p ++ [q] ++ rs.drop p
  have hbs : bs.length = rs.length + 1 := by
    show (rs.take p ++ [q] ++ rs.drop p).length = _
    simp
    omega
  have hbm : ∀ r ∈ bs, r = q ∨ r ∈ rs := by
    intro r hr
    rcases List.mem_append.1 hr with hr | hr
    · rcases List.mem_append.1 hr with hr | hr
      · exact .inr (List.mem_of_mem_take hr)
      · exact .inl (List.mem_singleton.1 hr)
    · exact .inr (List.mem_of_mem_drop hr)
  have hqb : q ∈ bs := List.mem_append_left _ (List.mem_append_right _ (List.mem_singleton.2 rfl))
  have hbo : RsOk bs := fun r hr => by
    rcases hbm r hr with rfl | h
    · exact ⟨by omega, q3⟩
    · exact hro r h
  have hbb : ∀ r ∈ bs, ∀ x ∈ r, x.natAbs < 2 ^ 2000 := fun r hr => big_2000 (small200 (hbo r hr).2 (by decide))
  have hr0 : ∃ r0 ∈ bs, (r0.length : Int) = d := by
    cases hh : rs with
    | nil => exact absurd hh hne
    | cons r0 rest =>
      have hm0 : r0 ∈ rs := by rw [hh]; exact List.mem_cons_self
      refine ⟨r0, ?_, (hr r0 hm0).1⟩
      rw [← List.take_append_drop p rs] at hm0
      rcases List.mem_append.1 hm0 with h | h
      · exact List.mem_append_left _ (List.mem_append_left _ h)
      · exact List.mem_append_right _ h
  refine wb_seqJ (fun ρ => ρ = E m13 (.dat (.lst (List.map .int sq2))) (.dat (.int p)) (.dat (.tup (List.map .int q))) (.dat (.lst (rowsD bs)))) ?_ ?_
  · show wpB XF _ [.mu m13, .dat (.int d), .dat (.int s), .dat (.lst (rowsD rs)), .dat (.lst (List.map .int ws)), .dat (.tup ((comL d.toNat ws rs).map .int)), .dat (.lst (List.map .int sq2)), .dat (.int p), .dat (.tup (List.map .int q)), .emp, .emp, .emp] _ _
    have e1 : cutL (rowsD rs) none (some (p : Int)) ++ [D.tup (List.map .int q)] ++ cutL (rowsD rs) (some (p : Int)) none = rowsD bs := by
      show _ = rowsD (rs.take p ++ [q] ++ rs.drop p)
      rw [cut_take, cut_drop, rowsD_app, rowsD_app]
      unfold rowsD
      rw [List.map_take, List.map_drop]
      rfl
    have e2 : (rowsD bs).length = rs.length + 1 := by unfold rowsD; rw [List.length_map]; exact hbs
    have e3 : (cutL (rowsD rs) none (some (p : Int)) ++ [D.tup (List.map .int q)]).length ≤ rs.length + 1 := by
      rw [cut_take]
      unfold rowsD
      simp
      omega
    walk_at "v"
    simp only [sl_l, ob_some]
    walk_at "v"
    rw [e1]
    exact ⟨by omega, by omega, rfl⟩
  rintro _ rfl
  refine wb_seqJ (fun ρ => ∃ m' sq, ρ = E m' (.dat (.lst (List.map .int sq))) (.dat (.int p)) (.dat (.tup (List.map .int q))) (.dat (.lst (rowsD bs))) ∧ Sto (n + 4903) m' ∧ sq.length ≤ 61 ∧ ∀ x ∈ sq, x.natAbs < 2 ^ 200) ?_ ?_
  · show wpB XF _ [.mu m13, .dat (.int d), .dat (.int s), .dat (.lst (rowsD rs)), .dat (.lst (List.map .int ws)), .dat (.tup ((comL d.toNat ws rs).map .int)), .dat (.lst (List.map .int sq2)), .dat (.int p), .dat (.tup (List.map .int q)), .dat (.lst (rowsD bs)), .emp, .emp] _ _
    walk_at "v"
    refine ⟨by simp; omega, pick_sp h13 (by omega) (by simp) (by simp) fun x hx m7 h7 => ?_⟩
    walk_at "v"
    simp only [List.mem_cons, List.not_mem_nil, or_false] at hx
    rcases hx with rfl | rfl | rfl
    · exact ⟨m7, ws, rfl, h7.mono (by omega), by omega, sw⟩
    · refine ⟨m7, ws ++ [1], by rw [List.map_append]; rfl, h7.mono (by omega), by simp; omega, fun x hx => ?_⟩
      rcases List.mem_append.1 hx with hx | hx
      · exact sw x hx
      · cases List.mem_singleton.1 hx
        decide
    · exact ⟨m7, [], rfl, h7.mono (by omega), by simp, by simp⟩
  rintro _ ⟨m14, sq3, rfl, h14, l14, b14⟩
  show wpB XF _ [.mu m14, .dat (.int d), .dat (.int s), .dat (.lst (rowsD rs)), .dat (.lst (List.map .int ws)), .dat (.tup ((comL d.toNat ws rs).map .int)), .dat (.lst (List.map .int sq3)), .dat (.int p), .dat (.tup (List.map .int q)), .dat (.lst (rowsD bs)), .emp, .emp] _ _
  walk_at "v"
  refine key sq3 bs (refused "BadCall" "dim") _ (by omega) b14 (by omega) hbo ref_pl (by rw [ref_sz]; decide) h14 (by omega) (fun y es z g1 g2 g3 => ?_) fun m6 h6 => ?_
  · refine try_com_d g1 g3 g2 (by omega) (big_2000 b14) hbb ?_
    obtain ⟨r0, hr0, hr1⟩ := hr0
    exact .inr ⟨q, hqb, r0, hr0, by omega⟩
  · walk_at "v"
    exact hp m6 (h6.mono (by omega)) _ _ _ _ _ _ _ _ _ _ _

theorem lengths_sp {n : Int} {m : MO} {P : D → En → Prop} (hm : Sto n m) (hn : n ≤ 400000000) (hp : ∀ m', Sto (n + 2000) m' → P (.bl true) [.mu m']) : sp XF F_w_lengths_told [.mu m] P := by
  have sz := sizeLine_ge
  unfold F_w_lengths_told
  refine sp_run ?_
  unfold b_w_lengths_told
  show wpB XF _ [.mu m, .emp, .emp] _ _
  rw [wb_seq, wb_for]
  walk_at "v"
  refine wb_forL _ (fun i ρ => ∃ m' x1 x2, ρ = [.mu m', x1, x2] ∧ Sto (n + 400 * i) m') ⟨m, _, _, rfl, hm.mono (by omega)⟩ ?_ ?_
  · rintro i e ρ hi ⟨m1, x1, x2, rfl, h1⟩
    have hi4 : i < 4 := (List.getElem?_eq_some_iff.1 hi).1
    have he := List.mem_of_getElem? hi
    have he : ∃ s : Str, e = .str s ∧ (s = "primitive" ∨ s = "upright" ∨ s = "contrary" ∨ s = "dot") := by
      simp only [List.mem_cons, List.not_mem_nil, or_false] at he
      rcases he with rfl | rfl | rfl | rfl
      · exact ⟨_, rfl, .inl rfl⟩
      · exact ⟨_, rfl, .inr (.inl rfl)⟩
      · exact ⟨_, rfl, .inr (.inr (.inl rfl))⟩
      · exact ⟨_, rfl, .inr (.inr (.inr rfl))⟩
    obtain ⟨deed, rfl, hde⟩ := he
    rw [asg_nm, ob_some]
    refine wb_gen fun N R hN hR => ?_
    simp only [sk1]
    refine wb_seqJ (fun ρ => ∃ m' xs, ρ = [.mu m', .dat (.str deed), .dat (.tup (List.map .int xs))] ∧ Sto (n + 400 * i + 1) m' ∧ (xs.length < 1 ∨ 4 < xs.length) ∧ xs.length ≤ 6 ∧ ∀ x ∈ xs, x.natAbs < 2 ^ 200) ?_ ?_
    · walk_at "v"
      refine pick_sp h1 (by omega) (by simp) (by simp) fun x hx m2 h2 => ?_
      walk_at "v"
      simp only [List.mem_cons, List.not_mem_nil, or_false] at hx
      have go : ∀ xs : List Int, x = .tup (List.map .int xs) → (xs.length < 1 ∨ 4 < xs.length) → xs.length ≤ 6 → (∀ x ∈ xs, -1000 ≤ x ∧ x ≤ 1000) → ∃ m' xs, [Sl.mu m2, .dat (.str deed), .dat x] = [.mu m', .dat (.str deed), .dat (.tup (List.map .int xs))] ∧ Sto (n + 400 * i + 1) m' ∧ (xs.length < 1 ∨ 4 < xs.length) ∧ xs.length ≤ 6 ∧ ∀ x ∈ xs, x.natAbs < 2 ^ 200 := fun xs e g1 g2 g3 => ⟨m2, xs, by rw [e], h2, g1, g2, small200 g3 (by decide)⟩
      rcases hx with rfl | rfl | rfl | rfl | rfl
      · exact go [] rfl (by simp) (by simp) (by simp)
      · exact go [0, 0, 0, 0, 0] rfl (by simp) (by simp) (by decide)
      · exact go [1, 0, 0, 0, 0] rfl (by simp) (by simp) (by decide)
      · exact go [2, 4, 6, 8, 10, 12] rfl (by simp) (by simp) (by decide)
      · exact go [0, 0, 0, 0, 0, 1] rfl (by simp) (by simp) (by decide)
    rintro _ ⟨m2, xs, rfl, h2, l1, l2, sx⟩
    have t1 := Th.ints (t := .tup (xs.map .int)) (.inr rfl) (by omega) sx .nil (by simp) (Nat.zero_le _)
    have t2 : Th [.tup (xs.map .int), .tup (xs.map .int)] := Th.ints (.inr rfl) (by omega) sx t1 (by simp) (by have := bkA_ints xs; show bkA (xs.map .int) + 1 + 0 ≤ _; omega)
    refine wb_seqJ (fun ρ => ∃ m', ρ = [.mu m', .dat (.str deed), .dat (.tup (List.map .int xs))] ∧ Sto (n + 400 * i + 100) m') ?_ ?_
    · walk_at "v"
      refine ask (due := told (.bl false)) h2 (by omega) t1 (told_pl trivial) (by rw [told_sz]; show 1 + 2 < _; decide) (fun zs hz => ?_) fun m5 h5 => ?_
      · obtain ⟨y, rfl, q1⟩ := a2_one hz
        exact try_isv_len (drt_row q1) l1
      · walk_at "v"
        exact ⟨m5, rfl, h5.mono (by simp; omega)⟩
    rintro _ ⟨m3, rfl, h3⟩
    walk_at "v"
    refine ask (due := refused "BadCall" "dim") h3 (by omega) t2 ref_pl (by rw [ref_sz]; decide) (fun zs hz => ?_) fun m5 h5 => ?_
    · obtain ⟨y, y', rfl, q1, q2⟩ := a2_two hz
      rcases hde with h | h | h | rfl
      · exact try_dim (drt_row q1) (by omega) (big_2000 sx) l1 (.inl h)
      · exact try_dim (drt_row q1) (by omega) (big_2000 sx) l1 (.inr (.inl h))
      · exact try_dim (drt_row q1) (by omega) (big_2000 sx) l1 (.inr (.inr h))
      · exact try_dot_dim (drt_row q1) (drt_row q2) (big_2000 sx) (big_2000 sx) (by omega)
    · walk_at "v"
      exact hN _ ⟨m5, _, _, rfl, h5.mono (by simp; omega)⟩
  · rintro ρ ⟨m1, x1, x2, rfl, h1⟩
    walk_at "v"
    exact hp m1 (h1.mono (by simp <;> omega))
def wpO (X : XP) (b : VS) (ρ : En) (P : MO → En → Prop) : Prop := match b ρ with
  | .ro m ρ' => P m ρ'
  | .ex c ns ds _ => X c ns ds
  | _ => False
theorem wo_seq {X : XP} {f g : VS} {ρ : En} {P : MO → En → Prop} (N : En → Prop) (h1 : wpB X f ρ N fun _ _ => False) (h2 : ∀ ρ', N ρ' → wpO X g ρ' P) : wpO X (vSeq f g) ρ P := by
  unfold wpB at h1
  unfold wpO vSeq
  cases e : f ρ with
  | nx ρ' =>
    rw [e] at h1
    have := h2 ρ' h1
    unfold wpO at this
    exact this
  | ex _ _ _ _ => rw [e] at h1; exact h1
  | _ => rw [e] at h1; exact h1.elim
theorem wo_ret {X : XP} {f : M MO} {ρ : En} {P : MO → En → Prop} (h : wpM X f ρ P) : wpO X (vRetO f) ρ P := by
  unfold wpM at h
  unfold wpO vRetO sb
  cases e : f ρ with
  | ok _ _ => rw [e] at h; exact h
  | ex _ _ _ _ => rw [e] at h; exact h
  | no => rw [e] at h; exact h.elim
theorem so_run {n Nn : Nat} {b : VS} {args : En} {P : MO → En → Prop} (hb : ∀ ρ', back args ρ' = some args) (h : wpO XF b (args ++ List.replicate (Nn - n) .emp) fun m _ => P m args) : soP XF (runO n Nn b) args P := by
  unfold wpO at h
  unfold soP runO
  cases e : b (args ++ List.replicate (Nn - n) .emp) with
  | ro m ρ' => rw [e] at h; simp only [hb] at h ⊢; exact h
  | ex _ _ _ _ => rw [e] at h; exact h.elim
  | _ => rw [e] at h; exact h.elim
theorem sl_f {xs : List D} {a b : Option Int} : sliceO (.fro xs) a b = some (.lst (cutL xs a b)) := (rfl)
theorem store_sp {ns : List Int} {P : MO → En → Prop} (hl : ns.length ≤ 63) (hp : ∀ m as, Sto 0 m → P m as) : soP XF F_w_store [.dat (.fro (ns.map .int))] P := by
  have sz := sizeLine_ge
  unfold F_w_store
  refine so_run (fun _ => rfl) ?_
  unfold b_w_store
  show wpO XF _ [.dat (.fro (ns.map .int)), .emp, .emp, .emp] _
  refine wo_seq (fun ρ => ρ = [.dat (.fro (ns.map .int)), .own (.lst ((ns.take 63).map .int)), .emp, .emp]) ?_ ?_
  · walk_at "v"
    rw [sl_f, ob_some, show (63 : Int) = ((63 : Nat) : Int) from rfl, cut_take, ← List.map_take]
    walk_at "v"
    refine ⟨by rw [List.length_take]; omega, wp_compP D.int D.int (ns.take 63) (fun x hx => ?_) ?_⟩
    · walk_at "v"
    · rfl
  rintro _ rfl
  generalize hcells : ns.take 63 = cells
  have hcl : cells.length ≤ 63 := by rw [← hcells, List.length_take]; omega
  refine wo_seq (fun ρ => ρ = [.dat (.fro (ns.map .int)), .own (.lst (cells.map .int)), .dat (.int 1234567891), .emp]) (by walk_at "v") ?_
  rintro _ rfl
  refine wo_seq (fun ρ => ∃ s x, ρ = [.dat (.fro (ns.map .int)), .dat (.lst (cells.map .int)), .dat (.int s), x]) ?_ ?_
  · walk_at "v"
    refine wb_forM D.int cells (fun i ρ => ∃ s x, ρ = [.dat (.fro (ns.map .int)), .dat (.lst (cells.map .int)), .dat (.int s), x]) ⟨_, _, rfl⟩ ?_ ?_
    · rintro i y ρ hi ⟨s, x, rfl⟩
      rw [asg_nm, ob_some]
      walk_at "v"
      exact ⟨modC_p (by decide), mix_sp (by omega) (by omega) fun r _ _ => ⟨_, _, rfl⟩⟩
    · rintro ρ h
      exact h
  rintro _ ⟨s, x, rfl⟩
  refine wo_ret ?_
  walk_at "v"
  exact hp _ _ ⟨cells, 0, 0, 0, 0, s, rfl, by decide, by decide, by decide⟩
theorem law_ok (ns : List Int) (hl : ns.length ≤ 63) : sp XF F_p_law [.dat (.fro (ns.map .int))] fun d _ => d = .bl true := by
  have sz := sizeLine_ge
  unfold F_p_law
  refine sp_run ?_
  unfold b_p_law
  show wpB XF _ [.dat (.fro (ns.map .int)), .emp, .emp, .emp, .emp, .emp] _ _
  refine wb_seqJ (fun ρ => ∃ m, ρ = [.dat (.fro (ns.map .int)), .own m, .emp, .emp, .emp, .emp] ∧ Sto 0 m) ?_ ?_
  · walk_at "v"
    simp only [wp_callO, wp_evdC, wp_evd0, wq_var, gk0, ob_some, List.map_cons, List.map_nil]
    refine store_sp hl fun m as hm => ?_
    walk_at "u"
    exact ⟨m, rfl, hm⟩
  rintro _ ⟨m0, rfl, h0⟩
  generalize D.fro (ns.map .int) = scr
  refine wb_seqJ (fun ρ => ∃ m x2 x3 x4 x5, ρ = [.dat scr, .own m, x2, x3, x4, x5] ∧ Sto 10000 m) ?_ ?_
  · walk_at "v"
    refine ⟨by decide, ?_⟩
    rw [show Int.toNat 6 = 6 from rfl]
    refine wb_forR 6 (fun i ρ => ∃ m x2 x3 x4 x5, ρ = [.dat scr, .own m, x2, x3, x4, x5] ∧ Sto (1000 * i) m) ⟨m0, _, _, _, _, rfl, h0.mono (by omega)⟩ ?_ ?_
    · rintro i ρ hi ⟨m1, x2, x3, x4, x5, rfl, h1⟩
      rw [asg_nm, ob_some]
      refine wb_gen fun N R hN hR => ?_
      simp only [sk2]
      refine wb_seqJ (fun ρ => ∃ m' d, ρ = [.dat scr, .own m', .dat (.int i), .dat (.int d), x4, x5] ∧ Sto (1000 * i + 1) m' ∧ 1 ≤ d ∧ d ≤ 4) ?_ ?_
      · walk_at "v"
        refine take_sp h1 (by omega) (by omega) fun r m2 h2 r0 r1 => ?_
        walk_at "v"
        exact ⟨m2, 1 + r, rfl, h2, by omega, by omega⟩
      rintro _ ⟨m2, d, rfl, h2, d1, d2⟩
      refine wb_seqJ (fun ρ => ∃ m' xs, ρ = [.dat scr, .own m', .dat (.int i), .dat (.int d), .dat (.tup (List.map .int xs)), x5] ∧ Sto (1000 * i + 61) m' ∧ (xs.length : Int) = d ∧ ∀ x ∈ xs, -BIG ≤ x ∧ x ≤ BIG) ?_ ?_
      · walk_at "v"
        refine built_sp h2 (by omega) d1 (by omega) fun xs m3 h3 hl hb => ?_
        walk_at "v"
        exact ⟨m3, xs, rfl, h3.mono (by omega), hl, hb⟩
      rintro _ ⟨m3, xs, rfl, h3, hxl, hb⟩
      have sx := small200 hb (by decide)
      have wx := big_2000 sx
      have t1 := Th.ints (t := .tup (xs.map .int)) (.inr rfl) (by omega) sx .nil (by simp) (Nat.zero_le _)
      have hne : xs ≠ [] := by rintro rfl; simp at hxl; omega
      walk_at "v"
      refine mixed_sp h3 (by omega) (by simp) fun ys m4 hperm h4 => ?_
      walk_at "v"
      have hyl := hperm.length_eq
      have hyl : ys.length = 4 := hyl
      replace h4 := h4.mono (k := 1000 * i + 65) (by simp <;> omega)
      refine wb_forL ys (fun j ρ => ∃ m x5, ρ = [.dat scr, .own m, .dat (.int i), .dat (.int d), .dat (.tup (List.map .int xs)), x5] ∧ Sto (1000 * i + 65 + 72 * j) m) ⟨m4, _, rfl, h4.mono (by omega)⟩ ?_ ?_
      · rintro j e ρ hj ⟨m5, y5, rfl, h5⟩
        have hj4 : j < 4 := by rw [← hyl]; exact (List.getElem?_eq_some_iff.1 hj).1
        have he := hperm.subset (List.mem_of_getElem? hj)
        rw [asg_nm, ob_some]
        refine wb_gen fun N' R' hN' hR' => ?_
        have fin : ∀ deed m', Sto (1000 * i + 65 + 72 * j + 72 * ([D.tup (List.map .int xs)].length : Nat)) m' → N' [.dat scr, .own m', .dat (.int i), .dat (.int d), .dat (.tup (List.map .int xs)), .dat (.str deed)] := fun deed m' h => hN' _ ⟨m', _, rfl, h.mono (by simp <;> omega)⟩
        have plz : ∀ d, plD d → plD (dueZero xs (told d)) := fun d h => by unfold dueZero; split; exact ref_pl; exact told_pl h
        have szz : ∀ d, szD d ≤ 10 → szD (dueZero xs (told d)) < 200000 := fun d h => by unfold dueZero; split; (rw [ref_sz]; decide); (rw [told_sz]; omega)
        have szl : ∀ ys : List Int, ys.length ≤ 4 → szD (.tup (ys.map .int)) ≤ 10 := fun ys h => by show szA _ + 1 ≤ _; rw [szA_ints]; omega
        have upl : (upL (primL xs) (primL xs)).length ≤ 4 := by
          rw [lex_up]
          split
          · unfold negL; rw [List.length_map, prim_len]; omega
          · rw [prim_len]; omega
        simp only [List.mem_cons, List.not_mem_nil, or_false] at he
        rcases he with rfl | rfl | rfl | rfl
        · walk_at "v"
          refine due_isv hne (by omega) sx fun as => ?_
          refine ask h5 (by omega) t1 (told_pl trivial) (by unfold dueIs; rw [told_sz]; show 1 + 2 < _; decide) (fun zs hz => ?_) fun m6 h6 => ?_
          · obtain ⟨y, rfl, q1⟩ := a2_one hz
            exact try_isv (drt_row q1) (by omega) (by omega)
          · walk_at "v"
            exact fin _ m6 h6
        · walk_at "v"
          refine due_prim (by omega) sx fun as => ?_
          refine ask h5 (by omega) t1 (plz _ (plA_ints _)) (szz _ (szl _ (by rw [prim_len]; omega))) (fun zs hz => ?_) fun m6 h6 => ?_
          · obtain ⟨y, rfl, q1⟩ := a2_one hz
            exact try_prim (drt_row q1) wx (by omega) (by omega)
          · walk_at "v"
            exact fin _ m6 h6
        · walk_at "v"
          refine due_up (by omega) sx fun as => ?_
          refine ask h5 (by omega) t1 (plz _ (plA_ints _)) (szz _ (szl _ upl)) (fun zs hz => ?_) fun m6 h6 => ?_
          · obtain ⟨y, rfl, q1⟩ := a2_one hz
            exact try_up (drt_row q1) wx (by omega) (by omega)
          · walk_at "v"
            exact fin _ m6 h6
        · walk_at "v"
          refine due_con (by omega) fun as => ?_
          refine ask h5 (by omega) t1 (told_pl (plA_ints _)) (by rw [told_sz]; have := szl (negL xs) (by unfold negL; rw [List.length_map]; omega); omega) (fun zs hz => ?_) fun m6 h6 => ?_
          · obtain ⟨y, rfl, q1⟩ := a2_one hz
            exact try_con (drt_row q1) (by omega) (by omega)
          · walk_at "v"
            exact fin _ m6 h6
      · rintro ρ ⟨m5, y5, rfl, h5⟩
        exact hN _ ⟨m5, _, _, _, _, rfl, h5.mono (by omega)⟩
    · rintro ρ ⟨m1, x2, x3, x4, x5, rfl, h1⟩
      exact ⟨m1, _, _, _, _, rfl, h1.mono (by omega)⟩
  rintro _ ⟨m1, x2, x3, x4, x5, rfl, h1⟩
  refine wb_seqJ (fun ρ => ∃ m, ρ = [.dat scr, .own m, x2, x3, x4, x5] ∧ Sto 20000 m) ?_ ?_
  · walk_at "v"
    refine kinds_sp h1 (by omega) fun m2 h2 => ?_
    walk_at "v"
    refine dots_sp h2 (by omega) fun m3 h3 => ?_
    walk_at "v"
    exact ⟨m3, rfl, h3.mono (by omega)⟩
  rintro _ ⟨m2, rfl, h2⟩
  walk_at "v"
  refine sums_sp h2 (by omega) fun m3 h3 => ?_
  walk_at "v"
  refine lengths_sp h3 (by omega) fun m4 h4 => ?_
  walk_at "u"
theorem law_plain (ns : List Int) (hl : ns.length ≤ 63) : ∃ as, F_p_law [.dat (.fro (ns.map .int))] = .ok (.bl true) as := by
  have h := law_ok ns hl
  unfold sp at h
  cases e : F_p_law [.dat (.fro (ns.map .int))] with
  | ok d as =>
    rw [e] at h
    cases h
    exact ⟨as, rfl⟩
  | ex _ _ _ _ => rw [e] at h; exact h.elim
  | no => rw [e] at h; exact h.elim
end Vi

namespace Vi
open PySem PySem.Spec PyProof.Rows L2
theorem law_sp {K : PySem.W.Frag} (hl : ∀ ns : List Int, ns.length ≤ 63 → ∃ as, F_p_law [.dat (.fro (ns.map .int))] = .ok (.bl true) as) (H : Hp) (a : Addr) (ns : List Int) (hn : ns.length ≤ 63) (hS : SqL K H a (ns.map V.int)) : spF K 1 F_p_law [.ref a] H (fun v _ => v = .bl true) fun _ _ _ => False := by
  obtain ⟨as, e⟩ := hl ns hn
  refine ⟨[.dat (.fro (ns.map .int))], H, ⟨0, 0, .none, none⟩, Rl.args (ds := [.fro (ns.map .int)]) _ (.one (.fro hS (RpA.ints ns))) (.refl _), argOk_dat [.fro (ns.map .int)], rfl, ?_⟩
  rw [e]
  exact fun v H' G' _ r => by cases r; rfl
theorem no_cx {P : Program} {w : World} {H : Hp} {s : Shared} {e : Value} {s' : Shared} (h : L2.CX P w [] H s (fun _ _ _ => False) e s') : False := by
  obtain ⟨_, _, _, _, _, _, _, _, _, _, _, _, z⟩ := h
  exact z
end Vi
open PySem PySem.W PySem.Calls PyProof.Rows
set_option maxHeartbeats 0 in
theorem holds_of (hl : ∀ ns : List Int, ns.length ≤ 63 → ∃ as, Vi.F_p_law [.dat (.fro (ns.map .int))] = .ok (.bl true) as) : PySem.Challenge.rw_ownedonce_k00_rows_and_vectors.Holds := by
  w_on; o_law
  refine HandSHeadRun.head_any (r := OpenLaw.row PySem.Challenge.rw_ownedonce_k00_rows_and_vectors) (q := view (OpenLaw.row PySem.Challenge.rw_ownedonce_k00_rows_and_vectors).prog [71]) (H := Vi.hk) (ob := Vi.ob) (M := 20000) (loose := Vi.loose) (d := HandSHeadRun.topDef (OpenLaw.row PySem.Challenge.rw_ownedonce_k00_rows_and_vectors).prog 71) (kwd := []) Vi.ob_eq
    (by kernel_rfl) (fun s => by kernel_rfl) Vi.run (by kernel_rfl) (by kernel_rfl) (by kernel_rfl) (by rfl) (by first | assumption | decide +kernel) (by decide +kernel) ⟨rfl, rfl, rfl, rfl, rfl, by decide +kernel⟩ ?hw ?hc
  case hw => w_witness2
  case hc =>
    refine Vi.walkF (l := PySem.Challenge.rw_ownedonce_k00_rows_and_vectors) (n := 63) (k := 40) (x := "script") rfl (by decide) (by kernel_rfl) ⟨rfl, by decide, by decide⟩ ?F (fun _ _ _ _ _ z => Vi.no_cx z)
    intro w mg fa h Y G hmg0
    obtain ⟨K, KX, c⟩ := Y
    have hmg : mg ("law" : PySem.Str) = some (.ref fa) := by
      have e : (HandSHeadRun.topDef (OpenLaw.row PySem.Challenge.rw_ownedonce_k00_rows_and_vectors).prog 71).name = ("law" : PySem.Str) := by kernel_rfl
      rw [← e]
      exact hmg0
    have ef : fa = He.ga K "law" := by
      have e2 := hmg.symm.trans (Vi.law_fk (w := w) (base := h) KX G c).g
      cases e2
      rfl
    subst ef
    refine ⟨K, Vi.spF K 1 Vi.F_p_law, KX, fun H a ns hn _ hS => Vi.law_sp hl H a ns hn hS, fun base KB GB => ?_⟩
    obtain ⟨fd, h1, h2⟩ := (Vi.law_fk (w := w) (base := base) KX G c).ex
    exact ⟨fd, ⟨h1.len, fun A outer s H args us vs Q E hr => h1.run A outer s H args us vs Q E (hr.mono (by decide))⟩, h2⟩

theorem PySem.Challenge.cw_ownedonce_k00_rows_and_vectors_holds : PySem.Challenge.rw_ownedonce_k00_rows_and_vectors.Holds :=
  holds_of Vi.law_plain
