import PyProof.Rows.All
import Wide.All
import OpenK.AllK
import Wide.FinOn
import HandS.ForMost
import HandS.Exc
import HandS.Wide
import HandS.WideBits
import HandS.TupAny
import HandS.TupMul
import HandS.Flow
import HandS.Deep
import HandS.Text
import HandS.TryOnly
import HandS.ExcOwn
import HandS.Comp
import HandS.DictComp
import HandS.IsInst
import HandS.WordsDict
import HandS.Codes
import PyProof.ReprRoads
import PyProof.CallFns
import KE.GoesMore
import HandS.Iter
import HandS.Zip
import KE.GoesEnum
import HandS.Style
import HandS.Words
import HandS.EndBits
import HandS.Strs
import HandS.ExcInit
import HandS.ExcField
import HandS.ExcSuper
import HandS.TryMany
import HandS.More
import HandS.ListEq
import HandS.Star
import HandS.ExcIs
import HandS.DeepEq
import PySem.Challenge.RW_anyearlier_k02_cells_of_rows
import HandS.Head0
import HandS.Head1
import HandS.Head2
import HandS.HeadEnd
import HandS.HeadHook1
import HandS.HeadHook2
import HandS.HeadHook3
import KE.KStateDown
set_option Elab.async false
set_option linter.all false
set_option maxRecDepth 100000
set_option maxHeartbeats 4000000
/-! DL1: the data level: values D, cells, slots, states, and what it means that a heap bears them. -/
namespace DL
open PySem L2

/-- where own classes stand, and the written part -/
structure Par where
  K : PySem.W.Frag
  G : Str → Addr

/-- values without addresses -/
inductive D where
  | non | bl (b : Bool) | int (i : Int) | str (x : Str)
  | tup (xs : List D) | lst (xs : List D)
  | dk (ks : List Key) (vs : List D) | dt (ks : List (List Key)) (vs : List D)
  | ins (c : Str) (ns : List Str) (vs : List D)
  | kt (xs : List D) | ref (n : Nat) | ob (a : Addr) | ty (n : String) | scr (ns : List Int)

/-- what a thing that may change holds -/
inductive Cl where
  | lst (xs : List D) | dk (ks : List Key) (vs : List D) | dt (ks : List (List Key)) (vs : List D)
  | ins (c : Str) (ns : List Str) (vs : List D)

/-- a slot of a frame: unknown, a value, a thing of its own, the caller's thing -/
inductive Sl where
  | no | val (d : D) | own (c : Cl) | io (c : Cl)

/-- what an expression comes to: a value, the thing in a slot, a new thing -/
inductive E where
  | v (d : D) | l (i : Nat) | f (c : Cl)

inductive R (α : Type) where
  | ok (x : α) (ρ : List Sl) (s : List Cl)
  | ex (c : Str) (ns : List Str) (vs : List D) (ρ : List Sl) (s : List Cl)
  | no

abbrev M (α : Type) : Type := List Sl → List Cl → R α

def M.pure {α : Type} (x : α) : M α := fun ρ s => .ok x ρ s
def M.bind {α β : Type} (f : M α) (k : α → M β) : M β := fun ρ s => match f ρ s with
  | .ok x ρ' s' => k x ρ' s'
  | .ex c ns vs ρ' s' => .ex c ns vs ρ' s'
  | .no => .no
def M.no {α : Type} : M α := fun _ _ => .no
def Cl.val : Cl → D
  | .lst xs => .lst xs
  | .dk ks vs => .dk ks vs
  | .dt ks vs => .dt ks vs
  | .ins c ns vs => .ins c ns vs

/-! ### representation -/
mutual
inductive Rep (P : Par) (F : Hp) (m : List Addr) : V → D → Prop
  | non : Rep P F m .non .non
  | bl (b : Bool) : Rep P F m (.bl b) (.bl b)
  | int (i : Int) : Rep P F m (.int i) (.int i)
  | str (x : Str) : Rep P F m (.str x) (.str x)
  | ty (n : String) : Rep P F m (.ty n) (.ty n)
  | tup {a : Addr} {vs : List V} {ds : List D} : F a = some (.tup vs) → RepL P F m vs ds → Rep P F m (.ref a) (.tup ds)
  | kt {a : Addr} {vs : List V} {ds : List D} : (∀ H, SqT P.K H a vs) → RepL P F m vs ds → Rep P F m (.ref a) (.kt ds)
  | lst {a : Addr} {vs : List V} {ds : List D} : F a = some (.lst vs) → RepL P F m vs ds → Rep P F m (.ref a) (.lst ds)
  | scr {a : Addr} {ns : List Int} : SqL P.K F a (ns.map V.int) → Rep P F m (.ref a) (.scr ns)
  | dk {a : Addr} {ks : List Key} {vs : List V} {ds : List D} : Rd F a (.dK (ks.zip vs)) → ks.length = vs.length → RepL P F m vs ds → Rep P F m (.ref a) (.dk ks ds)
  | dt {a : Addr} {ks : List (List Key)} {vs : List V} {ds : List D} : Rd F a (.dT (ks.zip vs)) → ks.length = vs.length → RepL P F m vs ds → Rep P F m (.ref a) (.dt ks ds)
  | ins {a dx : Addr} {c : Str} {ns : List Str} {vs : List V} {ds : List D} : F a = some (.ins (P.G c) dx (ns.zip vs)) → ns.length = vs.length → RepL P F m vs ds → Rep P F m (.ref a) (.ins c ns ds)
  | ref {n : Nat} {a : Addr} : m[n]? = some a → Rep P F m (.ref a) (.ref n)
  | ob (a : Addr) : Rep P F m (.ref a) (.ob a)
inductive RepL (P : Par) (F : Hp) (m : List Addr) : List V → List D → Prop
  | nil : RepL P F m [] []
  | cons {v : V} {d : D} {vs : List V} {ds : List D} : Rep P F m v d → RepL P F m vs ds → RepL P F m (v :: vs) (d :: ds)
end

section
variable {P : Par} {F F' : Hp} {m m' : List Addr}
theorem RepL.length : ∀ {vs : List V} {ds : List D}, RepL P F m vs ds → vs.length = ds.length
  | _, _, .nil => rfl
  | _, _, .cons _ t => congrArg (· + 1) t.length
theorem RepL.get : ∀ {vs : List V} {ds : List D} {i : Nat} {d : D}, RepL P F m vs ds → ds[i]? = some d → ∃ v, vs[i]? = some v ∧ Rep P F m v d
  | _, _, i, d, .nil, e => by simp at e
  | _, _, 0, d, .cons r _, e => by simp at e; subst e; exact ⟨_, rfl, r⟩
  | _, _, i + 1, d, .cons _ t, e => by
    obtain ⟨v, h1, h2⟩ := RepL.get (i := i) (d := d) t (by simpa using e)
    exact ⟨v, by simpa using h1, h2⟩
theorem RepL.get' : ∀ {vs : List V} {ds : List D} {i : Nat} {v : V}, RepL P F m vs ds → vs[i]? = some v → ∃ d, ds[i]? = some d ∧ Rep P F m v d
  | _, _, i, d, .nil, e => by simp at e
  | _, _, 0, d, .cons r _, e => by simp at e; subst e; exact ⟨_, rfl, r⟩
  | _, _, i + 1, v, .cons _ t, e => by
    obtain ⟨d, h1, h2⟩ := RepL.get' (i := i) (v := v) t (by simpa using e)
    exact ⟨d, by simpa using h1, h2⟩
theorem RepL.append : ∀ {vs ws : List V} {ds es : List D}, RepL P F m vs ds → RepL P F m ws es → RepL P F m (vs ++ ws) (ds ++ es)
  | _, _, _, _, .nil, s => s
  | _, _, _, _, .cons r t, s => .cons r (RepL.append t s)
theorem RepL.snoc {vs : List V} {ds : List D} {v : V} {d : D} (h : RepL P F m vs ds) (r : Rep P F m v d) : RepL P F m (vs ++ [v]) (ds ++ [d]) := h.append (.cons r .nil)
theorem RepL.take : ∀ {vs : List V} {ds : List D} (n : Nat), RepL P F m vs ds → RepL P F m (vs.take n) (ds.take n)
  | _, _, 0, _ => .nil
  | _, _, _ + 1, .nil => .nil
  | _, _, n + 1, .cons r t => .cons r (RepL.take n t)
theorem RepL.drop : ∀ {vs : List V} {ds : List D} (n : Nat), RepL P F m vs ds → RepL P F m (vs.drop n) (ds.drop n)
  | _, _, 0, h => h
  | _, _, _ + 1, .nil => .nil
  | _, _, n + 1, .cons _ t => RepL.drop n t
theorem RepL.set : ∀ {vs : List V} {ds : List D} {v : V} {d : D} (i : Nat), RepL P F m vs ds → Rep P F m v d → RepL P F m (vs.set i v) (ds.set i d)
  | _, _, _, _, _, .nil, _ => .nil
  | _, _, _, _, 0, .cons _ t, r => .cons r t
  | _, _, _, _, i + 1, .cons q t, r => .cons q (RepL.set i t r)
theorem RepL.reverse : ∀ {vs : List V} {ds : List D}, RepL P F m vs ds → RepL P F m vs.reverse ds.reverse
  | _, _, .nil => .nil
  | _, _, .cons r t => by rw [List.reverse_cons, List.reverse_cons]; exact (RepL.reverse t).snoc r

theorem Rd.up {F F' : Hp} {a : Addr} {u : HO} (k : ∀ a o, F a = some o → F' a = some o) (h : Rd F a u) : Rd F' a u := by
  rcases h with h | ⟨o, h⟩
  · exact .inl (k _ _ h)
  · exact .inr ⟨o, k _ _ h⟩
theorem SqT.up {K : PySem.W.Frag} {F F' : Hp} {a : Addr} {xs : List V} (k : ∀ a o, F a = some o → F' a = some o) (h : SqT K F a xs) : SqT K F' a xs := h.elim (fun r => .inl (Rd.up k r)) .inr
theorem SqL.up {K : PySem.W.Frag} {F F' : Hp} {a : Addr} {xs : List V} (k : ∀ a o, F a = some o → F' a = some o) (h : SqL K F a xs) : SqL K F' a xs := h.elim (fun r => .inl (Rd.up k r)) .inr
mutual
theorem Rep.mono (k : ∀ a o, F a = some o → F' a = some o) (q : ∃ r, m' = m ++ r) : ∀ {v : V} {d : D}, Rep P F m v d → Rep P F' m' v d
  | _, _, .non => .non
  | _, _, .bl b => .bl b
  | _, _, .int i => .int i
  | _, _, .str x => .str x
  | _, _, .ty n => .ty n
  | _, _, .tup h l => .tup (k _ _ h) (RepL.mono k q l)
  | _, _, .kt h l => .kt h (RepL.mono k q l)
  | _, _, .lst h l => .lst (k _ _ h) (RepL.mono k q l)
  | _, _, .scr h => .scr (SqL.up k h)
  | _, _, .dk h e l => .dk (Rd.up k h) e (RepL.mono k q l)
  | _, _, .dt h e l => .dt (Rd.up k h) e (RepL.mono k q l)
  | _, _, .ins h e l => .ins (k _ _ h) e (RepL.mono k q l)
  | _, _, .ref h => .ref (by
      obtain ⟨r, e⟩ := q
      have hl := (List.getElem?_eq_some_iff.mp h).1
      rw [e, List.getElem?_append_left hl]; exact h)
  | _, _, .ob a => .ob a
theorem RepL.mono (k : ∀ a o, F a = some o → F' a = some o) (q : ∃ r, m' = m ++ r) : ∀ {vs : List V} {ds : List D}, RepL P F m vs ds → RepL P F' m' vs ds
  | _, _, .nil => .nil
  | _, _, .cons r t => .cons (Rep.mono k q r) (RepL.mono k q t)
end
end
end DL
set_option Elab.async false
set_option linter.all false
set_option maxRecDepth 100000
set_option maxHeartbeats 4000000
/-! DL2: states, what may change, what is reached. -/
namespace DL
open PySem L2

structure Z where
  F : Hp
  H : Hp
  m : List Addr
  ρ : List Sl
  s : List Cl

def isD : HO → Prop
  | .dK _ => True
  | .dT _ => True
  | _ => False
/-- it stands so, or it is a dict that a loop walks -/
def Lk (x : Option HO) (o : HO) : Prop := x = some o ∨ (isD o ∧ ∃ ob, x = some (.frz ob o))
/-- a cell of the state -/
def CR (P : Par) (z : Z) (a : Addr) : Cl → Prop
  | .lst ds => ∃ vs, z.H a = some (.lst vs) ∧ RepL P z.F z.m vs ds
  | .dk ks ds => ∃ vs, ks.length = vs.length ∧ z.H a = some (.dK (ks.zip vs)) ∧ RepL P z.F z.m vs ds
  | .dt ks ds => ∃ vs, ks.length = vs.length ∧ z.H a = some (.dT (ks.zip vs)) ∧ RepL P z.F z.m vs ds
  | .ins c ns ds => ∃ dx vs, ns.length = vs.length ∧ z.H a = some (.ins (P.G c) dx (ns.zip vs)) ∧ RepL P z.F z.m vs ds
def OwnAt (σ : L2.St) (z : Z) (i : Nat) (a : Addr) : Prop := (∃ c, z.ρ[i]? = some (.own c) ∨ z.ρ[i]? = some (.io c)) ∧ σ[i]? = some (some (.ref a))
/-- what may change -/
def Mu (σ : L2.St) (z : Z) (a : Addr) : Prop := a ∈ z.m ∨ ∃ i, OwnAt σ z i a
def SlR (P : Par) (PV : List V) (z : Z) (i : Nat) (x : Option (Option V)) : Sl → Prop
  | .no => True
  | .val d => ∃ v, x = some (some v) ∧ Rep P z.F z.m v d
  | .own c => ∃ a, x = some (some (.ref a)) ∧ z.F a = none ∧ a ∉ z.m ∧ CR P z a c
  | .io c => ∃ a, x = some (some (.ref a)) ∧ PV[i]? = some (.ref a) ∧ z.F a = none ∧ a ∉ z.m ∧ CR P z a c
structure SR (P : Par) (PV : List V) (σ : L2.St) (z : Z) : Prop where
  fz : ∀ a o, z.F a = some o → Lk (z.H a) o
  len : z.m.length = z.s.length
  nd : z.m.Nodup
  cl : ∀ (n : Nat) a c, z.m[n]? = some a → z.s[n]? = some c → z.F a = none ∧ CR P z a c
  sl : ∀ (i : Nat) x, z.ρ[i]? = some x → SlR P PV z i σ[i]? x
  sd : ∀ (i j : Nat) a, OwnAt σ z i a → OwnAt σ z j a → i = j
  ln : z.ρ.length ≤ σ.length
/-- from one state to a later one -/
structure EX (σ : L2.St) (z : Z) (σ' : L2.St) (z' : Z) : Prop where
  fs : ∀ a o, z.F a = some o → z'.F a = some o
  mp : ∃ r, z'.m = z.m ++ r
  oth : ∀ a o, z.H a = some o → ¬ Mu σ z a → z.F a = none → z'.H a = some o
  nw : ∀ a o, z'.F a = some o → z.F a = some o ∨ z.H a = none ∨ Mu σ z a
  kp : ∀ a o, z.H a = some o → ∃ o', z'.H a = some o'
  mu : ∀ a, Mu σ' z' a → Mu σ z a ∨ z.H a = none

section
variable {P : Par} {PV : List V} {σ σ1 σ2 : L2.St} {z z1 z2 : Z} {a : Addr} {c : Cl} {v : V} {d : D}
theorem Lk.some {x : Option HO} {o : HO} (h : Lk x o) : ∃ o', x = some o' := h.elim (fun e => ⟨_, e⟩) fun ⟨_, ob, e⟩ => ⟨_, e⟩
theorem Lk.rd {H : Hp} {a : Addr} {o : HO} (h : Lk (H a) o) : Rd H a o := h.elim .inl fun ⟨_, ob, e⟩ => .inr ⟨ob, e⟩
theorem SR.rd (S : SR P PV σ z) {o : HO} (h : Rd z.F a o) : Rd z.H a o := by
  rcases h with h | ⟨ob, h⟩
  · exact (S.fz a o h).rd
  · rcases S.fz a _ h with e | ⟨x, _⟩
    · exact .inr ⟨ob, e⟩
    · exact x.elim
theorem SR.sqT (S : SR P PV σ z) {vs : List V} (h : SqT P.K z.F a vs) : SqT P.K z.H a vs := h.elim (fun r => .inl (S.rd r)) .inr
theorem SR.sqL (S : SR P PV σ z) {vs : List V} (h : SqL P.K z.F a vs) : SqL P.K z.H a vs := h.elim (fun r => .inl (S.rd r)) .inr
theorem SR.ins (S : SR P PV σ z) {C dx : Addr} {fs : List (Str × V)} (h : z.F a = some (.ins C dx fs)) : z.H a = some (.ins C dx fs) := by
  rcases S.fz a _ h with e | ⟨x, _⟩
  · exact e
  · exact x.elim
theorem SR.fno (S : SR P PV σ z) (h : z.H a = none) : z.F a = none := by
  cases e : z.F a with
  | none => rfl
  | some o =>
    obtain ⟨o', q⟩ := (S.fz a o e).some
    rw [h] at q; cases q
theorem CR.there (h : CR P z a c) : ∃ o, z.H a = some o := by
  cases c with
  | lst ds => obtain ⟨_, e, _⟩ := h; exact ⟨_, e⟩
  | dk ks ds => obtain ⟨_, _, e, _⟩ := h; exact ⟨_, e⟩
  | dt ks ds => obtain ⟨_, _, e, _⟩ := h; exact ⟨_, e⟩
  | ins k ns ds => obtain ⟨_, _, _, e, _⟩ := h; exact ⟨_, e⟩
theorem SR.own (S : SR P PV σ z) {i : Nat} (h : OwnAt σ z i a) : z.F a = none ∧ a ∉ z.m ∧ ∃ c, (z.ρ[i]? = some (.own c) ∨ z.ρ[i]? = some (.io c)) ∧ CR P z a c := by
  obtain ⟨⟨c, hc⟩, e⟩ := h
  rcases hc with hc | hc
  · obtain ⟨b, e1, e2, e3, e4⟩ := S.sl i _ hc
    rw [e] at e1; cases e1
    exact ⟨e2, e3, c, .inl hc, e4⟩
  · obtain ⟨b, e1, _, e2, e3, e4⟩ := S.sl i _ hc
    rw [e] at e1; cases e1
    exact ⟨e2, e3, c, .inr hc, e4⟩
theorem SR.mu_none (S : SR P PV σ z) (h : Mu σ z a) : z.F a = none := by
  rcases h with h | ⟨i, h⟩
  · obtain ⟨n, hn, e⟩ := List.getElem_of_mem h
    have hn' : n < z.s.length := by rw [← S.len]; exact hn
    exact (S.cl n a _ (by rw [List.getElem?_eq_getElem hn, e]) (List.getElem?_eq_getElem hn')).1
  · exact (S.own h).1
theorem SR.mu_there (S : SR P PV σ z) (h : Mu σ z a) : ∃ o, z.H a = some o := by
  rcases h with h | ⟨i, h⟩
  · obtain ⟨n, hn, e⟩ := List.getElem_of_mem h
    have hn' : n < z.s.length := by rw [← S.len]; exact hn
    exact (S.cl n a _ (by rw [List.getElem?_eq_getElem hn, e]) (List.getElem?_eq_getElem hn')).2.there
  · obtain ⟨_, _, c, _, h⟩ := S.own h
    exact h.there
theorem EX.refl : EX σ z σ z := ⟨fun _ _ h => h, ⟨[], (List.append_nil _).symm⟩, fun _ _ h _ _ => h, fun _ _ h => .inl h, fun _ o h => ⟨o, h⟩, fun _ h => .inl h⟩
theorem EX.trans (S : SR P PV σ z) (x : EX σ z σ1 z1) (y : EX σ1 z1 σ2 z2) : EX σ z σ2 z2 := by
  have kn : ∀ b, z1.H b = none → z.H b = none := fun b h => by
    cases e : z.H b with
    | none => rfl
    | some o => obtain ⟨o', q⟩ := x.kp b o e; rw [h] at q; cases q
  refine ⟨fun b o h => y.fs b o (x.fs b o h), ?_, fun b o h nm nf => ?_, fun b o h => ?_, fun b o h => ?_, fun b h => ?_⟩
  · obtain ⟨r1, e1⟩ := x.mp
    obtain ⟨r2, e2⟩ := y.mp
    exact ⟨r1 ++ r2, by rw [e2, e1, List.append_assoc]⟩
  · refine y.oth b o (x.oth b o h nm nf) (fun q => ?_) ?_
    · rcases x.mu b q with q | q
      · exact nm q
      · rw [h] at q; cases q
    · cases e : z1.F b with
      | none => rfl
      | some u =>
        rcases x.nw b u e with q | q | q
        · rw [nf] at q; cases q
        · rw [h] at q; cases q
        · exact absurd q nm
  · rcases y.nw b o h with q | q | q
    · exact x.nw b o q
    · exact .inr (.inl (kn b q))
    · rcases x.mu b q with q | q
      · exact .inr (.inr q)
      · exact .inr (.inl q)
  · obtain ⟨o', q⟩ := x.kp b o h
    exact y.kp b o' q
  · rcases y.mu b h with q | q
    · exact x.mu b q
    · exact .inr (kn b q)
theorem EX.kn (x : EX σ z σ1 z1) {b : Addr} (h : z1.H b = none) : z.H b = none := by
  cases e : z.H b with
  | none => rfl
  | some o => obtain ⟨o', q⟩ := x.kp b o e; rw [h] at q; cases q
theorem EX.rep (x : EX σ z σ1 z1) (r : Rep P z.F z.m v d) : Rep P z1.F z1.m v d := r.mono x.fs x.mp
theorem EX.repL (x : EX σ z σ1 z1) {vs : List V} {ds : List D} (r : RepL P z.F z.m vs ds) : RepL P z1.F z1.m vs ds := r.mono x.fs x.mp
/-- a thing that is nobody's stays -/
theorem EX.loose (S : SR P PV σ z) (x : EX σ z σ1 z1) (hf : z.F a = none) (hm : ¬ Mu σ z a) (h : CR P z a c) : z1.F a = none ∧ ¬ Mu σ1 z1 a ∧ CR P z1 a c := by
  obtain ⟨o, ho⟩ := h.there
  have e := x.oth a o ho hm hf
  refine ⟨?_, fun q => ?_, ?_⟩
  · cases q : z1.F a with
    | none => rfl
    | some u =>
      rcases x.nw a u q with q | q | q
      · rw [hf] at q; cases q
      · rw [ho] at q; cases q
      · exact absurd q hm
  · rcases x.mu a q with q | q
    · exact hm q
    · rw [ho] at q; cases q
  · cases c with
    | lst ds => obtain ⟨vs, e1, e2⟩ := h; exact ⟨vs, x.oth a _ e1 hm hf, x.repL e2⟩
    | dk ks ds => obtain ⟨vs, e0, e1, e2⟩ := h; exact ⟨vs, e0, x.oth a _ e1 hm hf, x.repL e2⟩
    | dt ks ds => obtain ⟨vs, e0, e1, e2⟩ := h; exact ⟨vs, e0, x.oth a _ e1 hm hf, x.repL e2⟩
    | ins k ns ds => obtain ⟨dx, vs, e0, e1, e2⟩ := h; exact ⟨dx, vs, e0, x.oth a _ e1 hm hf, x.repL e2⟩
end

/-- what an expression came to -/
def ER (P : Par) (σ : L2.St) (z : Z) (H0 : Hp) (v : V) : E → Prop
  | .v d => Rep P z.F z.m v d
  | .l i => σ[i]? = some (some v)
  | .f c => ∃ a, v = .ref a ∧ z.F a = none ∧ ¬ Mu σ z a ∧ H0 a = none ∧ CR P z a c
/-- an error's own dict -/
def XR (P : Par) (σ : L2.St) (z : Z) (ns : List Str) (vs : List D) (d : Option Addr) : Prop :=
  (ns = [] ∧ vs = [] ∧ d = none) ∨ ∃ dx gv, d = some dx ∧ ns.length = gv.length ∧ z.H dx = some (.xd (ns.zip gv)) ∧ z.F dx = none ∧ ¬ Mu σ z dx ∧ RepL P z.F z.m gv vs
theorem XR.up {P : Par} {PV : List V} {σ σ1 : L2.St} {z z1 : Z} {ns : List Str} {vs : List D} {d : Option Addr} (S : SR P PV σ z) (x : EX σ z σ1 z1) (h : XR P σ z ns vs d) : XR P σ1 z1 ns vs d := by
  rcases h with h | ⟨dx, gv, e, hl, hx, hf, hm, r⟩
  · exact .inl h
  · refine .inr ⟨dx, gv, e, hl, x.oth dx _ hx hm hf, ?_, fun q => ?_, x.repL r⟩
    · cases q : z1.F dx with
      | none => rfl
      | some u =>
        rcases x.nw dx u q with q | q | q
        · rw [hf] at q; cases q
        · rw [hx] at q; cases q
        · exact absurd q hm
    · rcases x.mu dx q with q | q
      · exact hm q
      · rw [hx] at q; cases q

/-- from z0 on: r is accepted by Q -/
def Acc {α β : Type} (P : Par) (PV : List V) (W : WX) (σ : L2.St) (z0 : Z) (rel : Z → β → α → Prop) (r : R α) (Q : β → Hp → Prop) : Prop :=
  match r with
  | .ok x ρ s => ∀ (b : β) F H m, EX σ z0 σ ⟨F, H, m, ρ, s⟩ → SR P PV σ ⟨F, H, m, ρ, s⟩ → rel ⟨F, H, m, ρ, s⟩ b x → Q b H
  | .ex c ns vs ρ s => ∀ F H m d, EX σ z0 σ ⟨F, H, m, ρ, s⟩ → SR P PV σ ⟨F, H, m, ρ, s⟩ → XR P σ ⟨F, H, m, ρ, s⟩ ns vs d → W (.ref (P.G c)) d σ H
  | .no => False

section
variable {P : Par} {PV : List V} {W : WX} {σ : L2.St} {z0 z1 : Z} {α β γ δ : Type}
theorem Acc.imp {rel : Z → β → α → Prop} {r : R α} {Q Q' : β → Hp → Prop} (h : Acc P PV W σ z0 rel r Q) (k : ∀ b H, Q b H → Q' b H) : Acc P PV W σ z0 rel r Q' := by
  cases r with
  | ok x ρ s => exact fun b F H m e s r => k b H (h b F H m e s r)
  | ex c ns vs ρ s => exact h
  | no => exact h
/-- the first part of a bind: its result, then what is left -/
theorem Acc.bind {rel : Z → β → α → Prop} {rel' : Z → δ → γ → Prop} {r : R α} {k : α → List Sl → List Cl → R γ} {Q : δ → Hp → Prop} (S0 : SR P PV σ z0)
    (hr : ∀ z1 z2 b x, EX σ z0 σ z1 → EX σ z1 σ z2 → SR P PV σ z1 → rel' z2 b x → True)
    (h : Acc P PV W σ z0 rel' (match r with | .ok x ρ' s' => k x ρ' s' | .ex c ns vs ρ' s' => .ex c ns vs ρ' s' | .no => .no) Q) {Q1 : β → Hp → Prop}
    (hk : ∀ x ρ s b F H m, EX σ z0 σ ⟨F, H, m, ρ, s⟩ → SR P PV σ ⟨F, H, m, ρ, s⟩ → rel ⟨F, H, m, ρ, s⟩ b x → Acc P PV W σ z0 rel' (k x ρ s) Q → Q1 b H) : Acc P PV W σ z0 rel r Q1 := by
  cases r with
  | ok x ρ s => exact fun b F H m e s' r => hk x ρ s b F H m e s' r h
  | ex c ns vs ρ s => exact h
  | no => exact h
/-- from a later state -/
theorem Acc.later {rel rel1 : Z → β → α → Prop} {r : R α} {Q : β → Hp → Prop} (S0 : SR P PV σ z0) (x : EX σ z0 σ z1) (h : Acc P PV W σ z0 rel r Q) (hr : ∀ z2 b y, EX σ z1 σ z2 → rel1 z2 b y → rel z2 b y) : Acc P PV W σ z1 rel1 r Q := by
  cases r with
  | ok y ρ s => exact fun b F H m e s r => h b F H m (x.trans S0 e) s (hr _ b y e r)
  | ex c ns vs ρ s => exact fun F H m d e s' q => h F H m d (x.trans S0 e) s' q
  | no => exact h
end
abbrev erel (P : Par) (σ : L2.St) (H0 : Hp) : Z → V → E → Prop := fun z v e => ER P σ z H0 v e
abbrev drel (P : Par) : Z → V → D → Prop := fun z v d => Rep P z.F z.m v d
abbrev trel : Z → Bool → Bool → Prop := fun _ b c => b = c
abbrev lrel (P : Par) : Z → List V → List D → Prop := fun z vs ds => RepL P z.F z.m vs ds

section
variable (P : Par) (PV : List V) (W : WX)
/-- an expression's reading by its meaning -/
def LE (f : M E) : TE := fun σ H Q => ∃ z : Z, z.H = H ∧ SR P PV σ z ∧ Acc P PV W σ z (erel P σ H) (f z.ρ z.s) Q
def LD (f : M D) : TE := fun σ H Q => ∃ z : Z, z.H = H ∧ SR P PV σ z ∧ Acc P PV W σ z (drel P) (f z.ρ z.s) Q
def LT (f : M Bool) : TT := fun σ H Q => ∃ z : Z, z.H = H ∧ SR P PV σ z ∧ Acc P PV W σ z trel (f z.ρ z.s) Q
def LA (f : M (List D)) : TA := fun σ H Q => ∃ z : Z, z.H = H ∧ SR P PV σ z ∧ Acc P PV W σ z (lrel P) (f z.ρ z.s) Q
end
end DL
set_option Elab.async false
set_option linter.all false
set_option maxRecDepth 100000
set_option maxHeartbeats 4000000
/-! DL3: growing, freezing, changing; contents; the rules' frame. -/
namespace DL
open PySem L2

section
variable {P : Par} {PV : List V} {W : WX} {σ : L2.St} {z z0 : Z} {a : Addr} {c : Cl} {v : V} {d : D}
theorem CR.up {z z' : Z} (hH : ∀ o, z.H a = some o → z'.H a = some o) (k : ∀ b o, z.F b = some o → z'.F b = some o) (q : ∃ r, z'.m = z.m ++ r) (h : CR P z a c) : CR P z' a c := by
  cases c with
  | lst ds => obtain ⟨vs, e1, e2⟩ := h; exact ⟨vs, hH _ e1, e2.mono k q⟩
  | dk ks ds => obtain ⟨vs, e0, e1, e2⟩ := h; exact ⟨vs, e0, hH _ e1, e2.mono k q⟩
  | dt ks ds => obtain ⟨vs, e0, e1, e2⟩ := h; exact ⟨vs, e0, hH _ e1, e2.mono k q⟩
  | ins n ns ds => obtain ⟨dx, vs, e0, e1, e2⟩ := h; exact ⟨dx, vs, e0, hH _ e1, e2.mono k q⟩
/-- the heap grows -/
theorem EX.grow {H' : Hp} (k : ∀ b o, z.H b = some o → H' b = some o) : EX σ z σ { z with H := H' } :=
  ⟨fun _ _ h => h, ⟨[], (List.append_nil _).symm⟩, fun _ _ h _ _ => k _ _ h, fun _ _ h => .inl h, fun _ o h => ⟨o, k _ _ h⟩, fun _ h => .inl h⟩
theorem SR.grow (S : SR P PV σ z) {H' : Hp} (k : ∀ b o, z.H b = some o → H' b = some o) : SR P PV σ { z with H := H' } := by
  have kc : ∀ {b : Addr} {c : Cl}, CR P z b c → CR P { z with H := H' } b c := fun {b c} h => h.up (fun o e => k b o e) (fun _ _ e => e) ⟨[], (List.append_nil _).symm⟩
  refine ⟨fun b o h => ?_, S.len, S.nd, fun n b c e1 e2 => ⟨(S.cl n b c e1 e2).1, kc (S.cl n b c e1 e2).2⟩, fun i x e => ?_, S.sd, S.ln⟩
  · rcases S.fz b o h with e | ⟨q, ob, e⟩
    · exact .inl (k _ _ e)
    · exact .inr ⟨q, ob, k _ _ e⟩
  · have h := S.sl i x e
    cases x with
    | no => trivial
    | val d => exact h
    | own c => obtain ⟨b, e1, e2, e3, e4⟩ := h; exact ⟨b, e1, e2, e3, kc e4⟩
    | io c => obtain ⟨b, e1, e0, e2, e3, e4⟩ := h; exact ⟨b, e1, e0, e2, e3, kc e4⟩
theorem upd_keep {H : Hp} {p : Addr} {o : HO} (h : H p = none) : ∀ b u, H b = some u → upd H p o b = some u := fun b u e => by rw [upd_ne (ne_of_none e h)]; exact e
theorem upd_F {F : Hp} {p : Addr} {o : HO} (h : F p = none) : ∀ b u, F b = some u → upd F p o b = some u := upd_keep h
/-- a new thing -/
theorem acc_new {ob : HO} {p : Addr} {Q : VK} (S : SR P PV σ z) (hp : z.H p = none) (hc : CR P { z with H := upd z.H p ob } p c) (A : Acc P PV W σ z (erel P σ z.H) (.ok (.f c) z.ρ z.s) Q) : Q (.ref p) (upd z.H p ob) := by
  have k := upd_keep (o := ob) hp
  refine A (.ref p) z.F (upd z.H p ob) z.m (EX.grow k) (S.grow k) ⟨p, rfl, S.fno hp, fun q => ?_, hp, hc⟩
  obtain ⟨o, e⟩ := S.mu_there (a := p) q
  rw [hp] at e; cases e
/-- what was known stays known behind a step that knows more -/
theorem EX.frz (S : SR P PV σ z) {ob : HO} {H' : Hp} {ρ' : List Sl} (k : ∀ b o, z.H b = some o → H' b = some o) (hf : z.F a = none) (hn : z.H a = none ∨ Mu σ z a)
    (hm : ∀ b, Mu σ { z with ρ := ρ' } b → Mu σ z b) : EX σ z σ ⟨upd z.F a ob, H', z.m, ρ', z.s⟩ :=
  ⟨upd_F hf, ⟨[], (List.append_nil _).symm⟩, fun _ _ h _ _ => k _ _ h, fun b o h => by
    by_cases e : b = a
    · subst e; exact .inr hn
    · exact .inl (by rw [← h]; exact (upd_ne e).symm), fun _ o h => ⟨o, k _ _ h⟩, fun b h => .inl (hm b h)⟩
theorem SR.frz (S : SR P PV σ z) {ob : HO} {H' : Hp} {ρ' : List Sl} (k : ∀ b o, z.H b = some o → H' b = some o) (hf : z.F a = none) (hm : a ∉ z.m) (ho : H' a = some ob)
    (hln : ρ'.length = z.ρ.length) (hs : ∀ (j : Nat) x, ρ'[j]? = some x → (z.ρ[j]? = some x ∧ ¬ (OwnAt σ { z with ρ := ρ' } j a)) ∨ ∃ d v, x = .val d ∧ σ[j]? = some (some v) ∧ Rep P (upd z.F a ob) z.m v d) : SR P PV σ ⟨upd z.F a ob, H', z.m, ρ', z.s⟩ := by
  have kc : ∀ {b : Addr} {c : Cl}, CR P z b c → CR P ⟨upd z.F a ob, H', z.m, ρ', z.s⟩ b c := fun {b c} h => h.up (fun o e => k b o e) (upd_F hf) ⟨[], (List.append_nil _).symm⟩
  have kn : ∀ {b : Addr}, z.F b = none → b ≠ a → upd z.F a ob b = none := fun {b} h e => by rw [upd_ne e]; exact h
  have own : ∀ i b, OwnAt σ ⟨upd z.F a ob, H', z.m, ρ', z.s⟩ i b → OwnAt σ z i b := fun i b ⟨⟨c, hc⟩, e⟩ => by
    rcases hc with hc | hc
    · rcases hs i _ hc with ⟨h, _⟩ | ⟨d, v, q, _⟩
      · exact ⟨⟨c, .inl h⟩, e⟩
      · cases q
    · rcases hs i _ hc with ⟨h, _⟩ | ⟨d, v, q, _⟩
      · exact ⟨⟨c, .inr h⟩, e⟩
      · cases q
  refine ⟨fun b o h => ?_, S.len, S.nd, fun n b c e1 e2 => ⟨kn (S.cl n b c e1 e2).1 fun e => hm (e ▸ List.mem_of_getElem? e1), kc (S.cl n b c e1 e2).2⟩, fun i x e => ?_, fun i j b h1 h2 => S.sd i j b (own i b h1) (own j b h2), by show ρ'.length ≤ _; rw [hln]; exact S.ln⟩
  · by_cases e : b = a
    · subst e
      have h' : upd z.F b ob b = some o := h
      rw [upd_same] at h'
      cases h'
      exact .inl ho
    · have h' : upd z.F a ob b = some o := h
      rw [upd_ne e] at h'
      rcases S.fz b o h' with e | ⟨q, ob, e⟩
      · exact .inl (k _ _ e)
      · exact .inr ⟨q, ob, k _ _ e⟩
  · rcases hs i x e with ⟨h, hno⟩ | ⟨d, v, rfl, h1, h2⟩
    · have r := S.sl i x h
      cases x with
      | no => trivial
      | val d => obtain ⟨v, h1, h2⟩ := r; exact ⟨v, h1, h2.mono (upd_F hf) ⟨[], (List.append_nil _).symm⟩⟩
      | own c =>
        obtain ⟨b, e1, e2, e3, e4⟩ := r
        exact ⟨b, e1, kn e2 fun q => hno (by subst q; exact ⟨⟨c, .inl e⟩, e1⟩), e3, kc e4⟩
      | io c =>
        obtain ⟨b, e1, e0, e2, e3, e4⟩ := r
        exact ⟨b, e1, e0, kn e2 fun q => hno (by subst q; exact ⟨⟨c, .inr e⟩, e1⟩), e3, kc e4⟩
    · exact ⟨v, h1, h2⟩
/-- a new thing that never changes -/
theorem acc_newV {ob : HO} {p : Addr} {Q : VK} (S : SR P PV σ z) (hp : z.H p = none) (hr : Rep P (upd z.F p ob) z.m (.ref p) d) (A : Acc P PV W σ z (erel P σ z.H) (.ok (.v d) z.ρ z.s) Q) : Q (.ref p) (upd z.H p ob) := by
  have k := upd_keep (o := ob) hp
  have hf := S.fno hp
  have nm : ¬ Mu σ z p := fun q => by
    obtain ⟨o, e⟩ := S.mu_there q
    rw [hp] at e; cases e
  exact A (.ref p) (upd z.F p ob) (upd z.H p ob) z.m (EX.frz S k hf (.inl hp) fun _ h => h) (S.frz k hf (fun q => nm (.inl q)) upd_same rfl fun j x e => .inl ⟨e, fun q => nm (.inr ⟨j, q⟩)⟩) hr
/-- what a cell's object is, and its frozen value -/
theorem CR.frozen (h : CR P z a c) : ∃ ob, z.H a = some ob ∧ (z.F a = none → Rep P (upd z.F a ob) z.m (.ref a) c.val) := by
  have q : ∃ r, z.m = z.m ++ r := ⟨[], (List.append_nil _).symm⟩
  cases c with
  | lst ds => obtain ⟨vs, e1, e2⟩ := h; exact ⟨_, e1, fun hf => .lst upd_same (e2.mono (upd_F hf) q)⟩
  | dk ks ds => obtain ⟨vs, e0, e1, e2⟩ := h; exact ⟨_, e1, fun hf => .dk (.inl upd_same) e0 (e2.mono (upd_F hf) q)⟩
  | dt ks ds => obtain ⟨vs, e0, e1, e2⟩ := h; exact ⟨_, e1, fun hf => .dt (.inl upd_same) e0 (e2.mono (upd_F hf) q)⟩
  | ins n ns ds => obtain ⟨dx, vs, e0, e1, e2⟩ := h; exact ⟨_, e1, fun hf => .ins upd_same e0 (e2.mono (upd_F hf) q)⟩
end

/-- a value of what an expression came to: things are frozen -/
def frz : E → M D
  | .v d => M.pure d
  | .f c => M.pure c.val
  | .l i => fun ρ s => match ρ[i]? with
    | some (.own c) => .ok c.val (ρ.set i (.val c.val)) s
    | _ => .no
theorem own_set {σ : L2.St} {z : Z} {i j : Nat} {d : D} {b : Addr} (h : OwnAt σ { z with ρ := z.ρ.set i (.val d) } j b) : j ≠ i ∧ OwnAt σ z j b := by
  obtain ⟨⟨c, hc⟩, e⟩ := h
  have key : ∀ x : Sl, (∀ d, x ≠ .val d) → (z.ρ.set i (.val d))[j]? = some x → j ≠ i ∧ z.ρ[j]? = some x := fun x hx hc => by
    by_cases q : j = i
    · subst q
      by_cases hl : j < z.ρ.length
      · rw [List.getElem?_set_self hl] at hc
        exact absurd (Option.some.inj hc).symm (hx _)
      · rw [List.getElem?_eq_none (by simpa using hl)] at hc; cases hc
    · rw [List.getElem?_set_ne (Ne.symm q)] at hc
      exact ⟨q, hc⟩
  rcases hc with hc | hc
  · obtain ⟨h1, h2⟩ := key _ (fun d q => by cases q) hc
    exact ⟨h1, ⟨c, .inl h2⟩, e⟩
  · obtain ⟨h1, h2⟩ := key _ (fun d q => by cases q) hc
    exact ⟨h1, ⟨c, .inr h2⟩, e⟩
section
variable {P : Par} {PV : List V} {W : WX} {σ : L2.St} {z z0 : Z} {a : Addr} {c : Cl} {v : V} {d : D}
/-- freezing behind an expression -/
theorem acc_frz {e : E} {F H : Hp} {m : List Addr} {ρ : List Sl} {s : List Cl} {Q : VK} (S0 : SR P PV σ z0) (x : EX σ z0 σ ⟨F, H, m, ρ, s⟩) (S : SR P PV σ ⟨F, H, m, ρ, s⟩) (r : ER P σ ⟨F, H, m, ρ, s⟩ z0.H v e)
    (A : Acc P PV W σ z0 (drel P) (frz e ρ s) Q) : Q v H := by
  cases e with
  | v d => exact A v F H m x S r
  | f c =>
    obtain ⟨b, rfl, hf, nm, hn, hc⟩ := r
    obtain ⟨ob, ho, hr⟩ := hc.frozen
    have hf' : F b = none := hf
    refine A (.ref b) (upd F b ob) H m ⟨fun a u h => upd_F hf' a u (x.fs a u h), x.mp, x.oth, fun a u h => ?_, x.kp, x.mu⟩ (S.frz (fun _ _ h => h) hf (fun q => nm (.inl q)) ho rfl fun j y e => .inl ⟨e, fun q => nm (.inr ⟨j, q⟩)⟩) (hr hf)
    by_cases e : a = b
    · subst e; exact .inr (.inl hn)
    · exact x.nw a u (by rw [← h]; exact (upd_ne e).symm)
  | l i =>
    have hi : σ[i]? = some (some v) := r
    have A' : Acc P PV W σ z0 (drel P) (match ρ[i]? with | some (.own c) => .ok c.val (ρ.set i (.val c.val)) s | _ => .no) Q := A
    clear A
    have A := A'
    clear A'
    cases hρ : ρ[i]? with
    | none => rw [hρ] at A; exact A.elim
    | some y =>
      rw [hρ] at A
      cases y with
      | no => exact A.elim
      | val d => exact A.elim
      | io c => exact A.elim
      | own c =>
        obtain ⟨b, e1, hf, nm, hc⟩ := S.sl i _ hρ
        rw [hi] at e1
        cases e1
        obtain ⟨ob, ho, hr⟩ := hc.frozen
        have hf' : F b = none := hf
        have ow : OwnAt σ ⟨F, H, m, ρ, s⟩ i b := ⟨⟨c, .inl hρ⟩, hi⟩
        have hl : i < ρ.length := (List.getElem?_eq_some_iff.mp hρ).1
        refine A (.ref b) (upd F b ob) H m ⟨fun a u h => upd_F hf' a u (x.fs a u h), x.mp, x.oth, fun a u h => ?_, x.kp, fun a h => x.mu a ?_⟩ (S.frz (fun _ _ h => h) hf nm ho (List.length_set ..) fun j y e => ?_) (hr hf)
        · by_cases e : a = b
          · subst e
            rcases x.mu a (.inr ⟨i, ow⟩) with q | q
            · exact .inr (.inr q)
            · exact .inr (.inl q)
          · exact x.nw a u (by rw [← h]; exact (upd_ne e).symm)
        · rcases h with h | ⟨j, h⟩
          · exact .inl h
          · exact .inr ⟨j, (own_set (z := ⟨F, H, m, ρ, s⟩) h).2⟩
        · by_cases q : j = i
          · subst q
            have e' : (ρ.set j (.val c.val))[j]? = some y := e
            rw [List.getElem?_set_self hl] at e'
            cases e'
            exact .inr ⟨c.val, .ref b, rfl, hi, hr hf⟩
          · have e' : (ρ.set i (.val c.val))[j]? = some y := e
            rw [List.getElem?_set_ne (Ne.symm q)] at e'
            refine .inl ⟨e', fun h => ?_⟩
            obtain ⟨_, h2⟩ := own_set (z := ⟨F, H, m, ρ, s⟩) h
            exact q (S.sd j i b h2 ow)
theorem ER.up {z z1 : Z} {H0 : Hp} {e : E} (S : SR P PV σ z) (x : EX σ z σ z1) (r : ER P σ z H0 v e) : ER P σ z1 H0 v e := by
  cases e with
  | v d => exact x.rep r
  | l i => exact r
  | f c =>
    obtain ⟨b, rfl, hf, nm, hn, hc⟩ := r
    obtain ⟨h1, h2, h3⟩ := EX.loose S x hf nm hc
    exact ⟨b, rfl, h1, h2, hn, h3⟩
theorem ER.org {z z1 : Z} {H0 H1 : Hp} {e : E} (k : ∀ b, H1 b = none → H0 b = none) (r : ER P σ z H1 v e) : ER P σ z H0 v e := by
  cases e with
  | v d => exact r
  | l i => exact r
  | f c =>
    obtain ⟨b, rfl, hf, nm, hn, hc⟩ := r
    exact ⟨b, rfl, hf, nm, k b hn, hc⟩
end

/-! ### readings: imp, bind -/
theorem PEi {X : Cx} {e : Expr} {t t' : TE} (h : PE X e t) (k : ∀ σ H Q, t' σ H Q → t σ H Q) : PE X e t' := ⟨fun pins s σ H Q I w => h.run pins s σ H Q I (k σ H Q w)⟩
theorem PTi {X : Cx} {e : Expr} {t t' : TT} (h : PT X e t) (k : ∀ σ H Q, t' σ H Q → t σ H Q) : PT X e t' := ⟨fun pins s σ H Q I w => h.run pins s σ H Q I (k σ H Q w)⟩
theorem PWi {X : Cx} {e : Expr} {t t' : TT} (h : PW X e t) (k : ∀ σ H Q, t' σ H Q → t σ H Q) : PW X e t' := ⟨fun wh pins s σ H Q I w => h.run wh pins s σ H Q I (k σ H Q w)⟩
theorem PAi {X : Cx} {es : List Expr} {t t' : TA} (h : PA X es t) (k : ∀ σ H Q, t' σ H Q → t σ H Q) : PA X es t' := ⟨fun pos pins s σ H Q I w => h.run pos pins s σ H Q I (k σ H Q w)⟩
section
variable {P : Par} {PV : List V} {W : WX} {σ : L2.St} {H : Hp} {α β : Type}
/-- an expression, then more: the general step -/
theorem le_bind {f : M E} {k : E → M α} {rel : Hp → Z → β → α → Prop} {Q : β → Hp → Prop} {Q1 : VK} (hr : ∀ {H0 H1 : Hp} {z : Z} {b : β} {x : α}, (∀ a, H1 a = none → H0 a = none) → rel H1 z b x → rel H0 z b x)
    (h : ∃ z : Z, z.H = H ∧ SR P PV σ z ∧ Acc P PV W σ z (rel H) (M.bind f k z.ρ z.s) Q)
    (hk : ∀ z1 v e, SR P PV σ z1 → ER P σ z1 H v e → Acc P PV W σ z1 (rel z1.H) (k e z1.ρ z1.s) Q → Q1 v z1.H) : LE P PV W f σ H Q1 := by
  obtain ⟨z, rfl, S, A⟩ := h
  refine ⟨z, rfl, S, ?_⟩
  unfold M.bind at A
  cases hf : f z.ρ z.s with
  | no => rw [hf] at A; exact A.elim
  | ex c ns vs ρ s => rw [hf] at A; exact A
  | ok e ρ s =>
    rw [hf] at A
    intro v F H1 m x S1 r
    exact hk ⟨F, H1, m, ρ, s⟩ v e S1 r (A.later S x fun z2 b y _ q => hr (fun a ha => x.kn ha) q)
theorem ld_bind {f : M D} {k : D → M α} {rel : Hp → Z → β → α → Prop} {Q : β → Hp → Prop} {Q1 : VK} (hr : ∀ {H0 H1 : Hp} {z : Z} {b : β} {x : α}, (∀ a, H1 a = none → H0 a = none) → rel H1 z b x → rel H0 z b x)
    (h : ∃ z : Z, z.H = H ∧ SR P PV σ z ∧ Acc P PV W σ z (rel H) (M.bind f k z.ρ z.s) Q)
    (hk : ∀ z1 v e, SR P PV σ z1 → Rep P z1.F z1.m v e → Acc P PV W σ z1 (rel z1.H) (k e z1.ρ z1.s) Q → Q1 v z1.H) : LD P PV W f σ H Q1 := by
  obtain ⟨z, rfl, S, A⟩ := h
  refine ⟨z, rfl, S, ?_⟩
  unfold M.bind at A
  cases hf : f z.ρ z.s with
  | no => rw [hf] at A; exact A.elim
  | ex c ns vs ρ s => rw [hf] at A; exact A
  | ok e ρ s =>
    rw [hf] at A
    intro v F H1 m x S1 r
    exact hk ⟨F, H1, m, ρ, s⟩ v e S1 r (A.later S x fun z2 b y _ q => hr (fun a ha => x.kn ha) q)
theorem lt_bind {f : M Bool} {k : Bool → M α} {rel : Hp → Z → β → α → Prop} {Q : β → Hp → Prop} {Q1 : Bool → Hp → Prop} (hr : ∀ {H0 H1 : Hp} {z : Z} {b : β} {x : α}, (∀ a, H1 a = none → H0 a = none) → rel H1 z b x → rel H0 z b x)
    (h : ∃ z : Z, z.H = H ∧ SR P PV σ z ∧ Acc P PV W σ z (rel H) (M.bind f k z.ρ z.s) Q)
    (hk : ∀ z1 b, SR P PV σ z1 → Acc P PV W σ z1 (rel z1.H) (k b z1.ρ z1.s) Q → Q1 b z1.H) : LT P PV W f σ H Q1 := by
  obtain ⟨z, rfl, S, A⟩ := h
  refine ⟨z, rfl, S, ?_⟩
  unfold M.bind at A
  cases hf : f z.ρ z.s with
  | no => rw [hf] at A; exact A.elim
  | ex c ns vs ρ s => rw [hf] at A; exact A
  | ok e ρ s =>
    rw [hf] at A
    intro v F H1 m x S1 r
    have r' : v = e := r
    subst r'
    exact hk ⟨F, H1, m, ρ, s⟩ v S1 (A.later S x fun z2 b y _ q => hr (fun a ha => x.kn ha) q)
theorem erel_org {H0 H1 : Hp} {z : Z} {b : V} {x : E} (k : ∀ a, H1 a = none → H0 a = none) (r : ER P σ z H1 b x) : ER P σ z H0 b x := ER.org (z1 := z) k r
theorem lrel_org {γ δ : Type} {r : Z → γ → δ → Prop} {H0 H1 : Hp} {z : Z} {b : γ} {x : δ} (_ : ∀ a, H1 a = none → H0 a = none) (q : r z b x) : r z b x := q
end
end DL
set_option Elab.async false
set_option linter.all false
set_option maxRecDepth 100000
set_option maxHeartbeats 4000000
/-! DL4: names, constants, operators, tests, displays, subscripts. -/
namespace DL
open PySem L2

/-- what a container holds, seen now -/
def con (e : E) (ρ : List Sl) (s : List Cl) : Option Cl := match e with
  | .v (.lst xs) => some (.lst xs)
  | .v (.dk ks vs) => some (.dk ks vs)
  | .v (.dt ks vs) => some (.dt ks vs)
  | .v (.ins c ns vs) => some (.ins c ns vs)
  | .v (.ref n) => s[n]?
  | .l i => match ρ[i]? with
    | some (.own c) => some c
    | some (.io c) => some c
    | _ => none
  | .f c => some c
  | _ => none
def CV (P : Par) (z : Z) (a : Addr) : Cl → Prop
  | .lst ds => ∃ vs, z.H a = some (.lst vs) ∧ RepL P z.F z.m vs ds
  | .dk ks ds => ∃ vs, ks.length = vs.length ∧ Rd z.H a (.dK (ks.zip vs)) ∧ RepL P z.F z.m vs ds
  | .dt ks ds => ∃ vs, ks.length = vs.length ∧ Rd z.H a (.dT (ks.zip vs)) ∧ RepL P z.F z.m vs ds
  | .ins c ns ds => ∃ dx vs, ns.length = vs.length ∧ z.H a = some (.ins (P.G c) dx (ns.zip vs)) ∧ RepL P z.F z.m vs ds
section
variable {P : Par} {PV : List V} {W : WX} {σ : L2.St} {z : Z} {a : Addr} {c : Cl} {v : V} {d : D} {H0 : Hp}
theorem CR.view (h : CR P z a c) : CV P z a c := by
  cases c with
  | lst ds => exact h
  | dk ks ds => obtain ⟨vs, e0, e1, e2⟩ := h; exact ⟨vs, e0, .inl e1, e2⟩
  | dt ks ds => obtain ⟨vs, e0, e1, e2⟩ := h; exact ⟨vs, e0, .inl e1, e2⟩
  | ins k ns ds => exact h
theorem con_ok {e : E} (S : SR P PV σ z) (r : ER P σ z H0 v e) (h : con e z.ρ z.s = some c) : ∃ a, v = .ref a ∧ CV P z a c := by
  cases e with
  | v d =>
    have r' : Rep P z.F z.m v d := r
    cases r' with
    | @lst a vs ds h1 h2 =>
      cases h
      refine ⟨a, rfl, vs, ?_, h2⟩
      rcases S.fz a _ h1 with e | ⟨x, _⟩
      · exact e
      · exact x.elim
    | @dk a ks vs ds h1 h2 h3 => cases h; exact ⟨a, rfl, vs, h2, S.rd h1, h3⟩
    | @dt a ks vs ds h1 h2 h3 => cases h; exact ⟨a, rfl, vs, h2, S.rd h1, h3⟩
    | @ins a dx c ns vs ds h1 h2 h3 => cases h; exact ⟨a, rfl, dx, vs, h2, S.ins h1, h3⟩
    | @ref n a h1 => exact ⟨a, rfl, (S.cl n a c h1 h).2.view⟩
    | non => cases h
    | bl b => cases h
    | int i => cases h
    | str x => cases h
    | ty n => cases h
    | tup h1 h2 => cases h
    | kt h1 h2 => cases h
    | ob a => cases h
    | scr h1 => cases h
  | l i =>
    have hi : σ[i]? = some (some v) := r
    have h' : (match z.ρ[i]? with | some (.own c) => some c | some (.io c) => some c | _ => none) = some c := h
    cases hρ : z.ρ[i]? with
    | none => rw [hρ] at h'; cases h'
    | some y =>
      rw [hρ] at h'
      cases y with
      | no => cases h'
      | val d => cases h'
      | own c' =>
        cases h'
        obtain ⟨b, e1, _, _, hc⟩ := S.sl i _ hρ
        rw [hi] at e1; cases e1
        exact ⟨b, rfl, hc.view⟩
      | io c' =>
        cases h'
        obtain ⟨b, e1, _, _, _, hc⟩ := S.sl i _ hρ
        rw [hi] at e1; cases e1
        exact ⟨b, rfl, hc.view⟩
  | f c' =>
    cases h
    obtain ⟨b, rfl, _, _, _, hc⟩ := r
    exact ⟨b, rfl, hc.view⟩
theorem ER.int {i : Int} (r : ER P σ z H0 v (.v (.int i))) : v = .int i := by cases (show Rep P z.F z.m v (.int i) from r); rfl
theorem ER.str {x : Str} (r : ER P σ z H0 v (.v (.str x))) : v = .str x := by cases (show Rep P z.F z.m v (.str x) from r); rfl
theorem ER.bl {x : Bool} (r : ER P σ z H0 v (.v (.bl x))) : v = .bl x := by cases (show Rep P z.F z.m v (.bl x) from r); rfl
theorem ER.non (r : ER P σ z H0 v (.v .non)) : v = .non := by cases (show Rep P z.F z.m v .non from r); rfl
theorem ER.tup {ds : List D} (S : SR P PV σ z) (r : ER P σ z H0 v (.v (.tup ds))) : ∃ a vs, v = .ref a ∧ SqT P.K z.H a vs ∧ RepL P z.F z.m vs ds ∧ z.F a = some (.tup vs) := by
  cases (show Rep P z.F z.m v (.tup ds) from r) with
  | @tup a vs _ h1 h2 =>
    refine ⟨a, vs, rfl, SqT.of ?_, h2, h1⟩
    rcases S.fz a _ h1 with e | ⟨x, _⟩
    · exact e
    · exact x.elim
theorem ER.kt {ds : List D} (r : ER P σ z H0 v (.v (.kt ds))) : ∃ a vs, v = .ref a ∧ SqT P.K z.H a vs ∧ RepL P z.F z.m vs ds := by
  cases (show Rep P z.F z.m v (.kt ds) from r) with
  | @kt a vs _ h1 h2 => exact ⟨a, vs, rfl, h1 _, h2⟩
theorem ER.scr {ns : List Int} (S : SR P PV σ z) (r : ER P σ z H0 v (.v (.scr ns))) : ∃ a, v = .ref a ∧ SqL P.K z.H a (ns.map V.int) := by
  cases (show Rep P z.F z.m v (.scr ns) from r) with
  | @scr a _ h1 => exact ⟨a, rfl, S.sqL h1⟩
theorem acc_val {Q : VK} (S : SR P PV σ z) (r : Rep P z.F z.m v d) (A : Acc P PV W σ z (erel P σ z.H) (.ok (.v d) z.ρ z.s) Q) : Q v z.H := A v z.F z.H z.m EX.refl S r
theorem acc_er {e : E} {Q : VK} (S : SR P PV σ z) (r : ER P σ z z.H v e) (A : Acc P PV W σ z (erel P σ z.H) (.ok e z.ρ z.s) Q) : Q v z.H := A v z.F z.H z.m EX.refl S r
end

section
variable {P : Par} {PV : List V} {W : WX} {σ : L2.St} {z : Z} {p : Addr} {Q : VK}
theorem acc_newL {vs : List V} {ds : List D} (S : SR P PV σ z) (hp : z.H p = none) (l : RepL P z.F z.m vs ds) (A : Acc P PV W σ z (erel P σ z.H) (.ok (.f (.lst ds)) z.ρ z.s) Q) : Q (.ref p) (upd z.H p (.lst vs)) :=
  acc_new (c := .lst ds) S hp ⟨vs, upd_same, l⟩ A
theorem acc_newT {vs : List V} {ds : List D} (S : SR P PV σ z) (hp : z.H p = none) (l : RepL P z.F z.m vs ds) (A : Acc P PV W σ z (erel P σ z.H) (.ok (.v (.tup ds)) z.ρ z.s) Q) : Q (.ref p) (upd z.H p (.tup vs)) :=
  acc_newV S hp (.tup upd_same (l.mono (upd_F (S.fno hp)) ⟨[], (List.append_nil _).symm⟩)) A
end

/-! ### names and constants -/
def eVar (i : Nat) : M E := fun ρ s => match ρ[i]? with
  | some (.val d) => .ok (.v d) ρ s
  | some (.own _) => .ok (.l i) ρ s
  | some (.io _) => .ok (.l i) ρ s
  | _ => .no
def eC (d : D) : M E := fun ρ s => .ok (.v d) ρ s
section
variable {X : Cx} {P : Par} {PV : List V} {W : WX}
theorem de_var {i : Nat} {x : Str} {pos : Pos} (hN : X.N[i]? = some x) (hv : Vis X.env.scope x) (hd : (x == ("__debug__" : Str)) = false := by decide) (hcd : (x == ("__classdict__" : Str)) = false := by decide) : PE X (.Name x pos) (LE P PV W (eVar i)) := by
  refine PEi (pe_var hN hv hd hcd) fun σ H Q h => ?_
  obtain ⟨z, rfl, S, A⟩ := h
  have A' : Acc P PV W σ z (erel P σ z.H) (match z.ρ[i]? with | some (.val d) => .ok (.v d) z.ρ z.s | some (.own _) => .ok (.l i) z.ρ z.s | some (.io _) => .ok (.l i) z.ρ z.s | _ => .no) Q := A
  cases hρ : z.ρ[i]? with
  | none => rw [hρ] at A'; exact A'.elim
  | some y =>
    rw [hρ] at A'
    cases y with
    | no => exact A'.elim
    | val d =>
      obtain ⟨v, e, r⟩ := S.sl i _ hρ
      exact ⟨v, e, acc_val S r A'⟩
    | own c =>
      obtain ⟨b, e1, _⟩ := S.sl i _ hρ
      exact ⟨.ref b, e1, acc_er (e := .l i) S e1 A'⟩
    | io c =>
      obtain ⟨b, e1, _⟩ := S.sl i _ hρ
      exact ⟨.ref b, e1, acc_er (e := .l i) S e1 A'⟩
theorem de_tC {v : V} {d : D} {e : Expr} (h : PE X e (tC v)) (r : ∀ F m, Rep P F m v d) : PE X e (LE P PV W (eC d)) :=
  PEi h fun _ _ _ ⟨z, e, S, A⟩ => by subst e; exact acc_val S (r _ _) A
theorem de_int {i j pos} : PE X (.Constant (.int i) j pos) (LE P PV W (eC (.int i))) := de_tC pe_int fun _ _ => .int i
theorem de_bl {b j pos} : PE X (.Constant (.bool b) j pos) (LE P PV W (eC (.bl b))) := de_tC pe_bl fun _ _ => .bl b
theorem de_non {j pos} : PE X (.Constant .none j pos) (LE P PV W (eC .non)) := de_tC pe_non fun _ _ => .non
theorem de_str {x j pos} : PE X (.Constant (.str x) j pos) (LE P PV W (eC (.str x))) := de_tC pe_str fun _ _ => .str x
end

/-! ### operators of two -/
def eBin (g : E → E → M E) (fa fb : M E) : M E := M.bind fa fun a => M.bind fb fun b => g a b
/-- g is an operator whose rule asks r -/
def OpD (P : Par) (PV : List V) (W : WX) (g : E → E → M E) (r : R2) : Prop := ∀ (σ : L2.St) (z : Z) (H1 H2 : Hp) (x y : V) (a b : E) (Q : VK), SR P PV σ z → ER P σ z H1 x a → ER P σ z H2 y b → Acc P PV W σ z (erel P σ z.H) (g a b z.ρ z.s) Q → r x y z.H Q
section
variable {X : Cx} {P : Par} {PV : List V} {W : WX} {a b : Expr} {fa fb : M E} {pos : Pos}
theorem le_bin {g : E → E → M E} {r : R2} (h : OpD P PV W g r) : ∀ σ H Q, LE P PV W (eBin g fa fb) σ H Q → tOp r (LE P PV W fa) (LE P PV W fb) σ H Q := fun σ H Q hq =>
  le_bind (rel := fun H => erel P σ H) (fun k q => erel_org k q) hq fun z1 v1 e1 S1 r1 A1 =>
    ⟨z1, rfl, S1, by
      have A2 := A1
      unfold M.bind at A2
      cases hf : fb z1.ρ z1.s with
      | no => rw [hf] at A2; exact A2.elim
      | ex c ns vs ρ s => rw [hf] at A2; exact A2
      | ok e2 ρ s =>
        rw [hf] at A2
        intro v2 F H2 m x S2 r2
        exact h σ ⟨F, H2, m, ρ, s⟩ _ _ v1 v2 e1 e2 Q S2 (r1.up S1 x) r2 (A2.later S1 x fun z2 b y _ q => erel_org (fun a ha => x.kn ha) q)⟩
theorem de_op {op : Operator} {g : E → E → M E} {r : R2} (ho : OpR X (binaryOp op) r) (h : OpD P PV W g r) (ha : PE X a (LE P PV W fa)) (hb : PE X b (LE P PV W fb)) : PE X (.BinOp a op b pos) (LE P PV W (eBin g fa fb)) :=
  PEi (pe_op ho ha hb) (le_bin h)
theorem de_cmp {op : CmpOp} {g : E → E → M E} {r : R2} (ho : OpR X (compareOp op) r) (h : OpD P PV W g r) (ha : PE X a (LE P PV W fa)) (hb : PE X b (LE P PV W fb)) (hm : behindInMarks op b = false) : PE X (.Compare a [op] [b] pos) (LE P PV W (eBin g fa fb)) :=
  PEi (pe_cmpR ho ha hb hm) (le_bin h)
end

/-- two ints, under a test -/
def gI (t : Int → Int → Bool) (f : Int → Int → Int) : E → E → M E
  | .v (.int i), .v (.int j) => fun ρ s => if t i j = true then .ok (.v (.int (f i j))) ρ s else .no
  | _, _ => M.no
section
variable {P : Par} {PV : List V} {W : WX}
/-- a case split of g by what the operands are -/
theorem opd_int {t : Int → Int → Bool} {f : Int → Int → Int} {r : R2} (hr : ∀ i j H Q, t i j = true → Q (.int (f i j)) H → r (.int i) (.int j) H Q) : OpD P PV W (gI t f) r := by
  intro σ z H1 H2 x y a b Q S ra rb A
  have no : ∀ {Q : VK}, Acc P PV W σ z (erel P σ z.H) (M.no z.ρ z.s) Q → False := fun h => h
  cases a with
  | l i => exact (no A).elim
  | f c => exact (no A).elim
  | v d =>
    cases b with
    | l i => cases d <;> exact (no A).elim
    | f c => cases d <;> exact (no A).elim
    | v e =>
      cases d with
      | int i =>
        cases e with
        | int j =>
          cases ra.int
          cases rb.int
          have A' : Acc P PV W σ z (erel P σ z.H) (if t i j = true then .ok (.v (.int (f i j))) z.ρ z.s else .no) Q := A
          by_cases ht : t i j = true
          · rw [if_pos ht] at A'
            exact hr i j _ _ ht (acc_val S (.int _) A')
          · rw [if_neg ht] at A'
            exact A'.elim
        | _ => exact (no A).elim
      | _ => exact (no A).elim
end
def gSub : E → E → M E := gI (fun _ _ => true) (· - ·)
def tMulW (i j : Int) : Bool := decide (i.natAbs.log2 + j.natAbs.log2 < 1000000)
def gFdiv : E → E → M E := gI (fun _ j => decide (0 < j) && decide (j.natAbs.log2 < 9000)) (· / ·)
def gMod : E → E → M E := gI (fun _ j => decide (0 < j)) (· % ·)
def gPow : E → E → M E := gI (fun i j => decide (0 ≤ j) && (decide (j ≤ 1000000) && decide (i.natAbs < 2 ^ 64))) fun i j => i ^ j.toNat
def gShl : E → E → M E := gI (fun i j => decide (0 ≤ j) && (decide (j ≤ 1000000) && decide (i.natAbs < 2 ^ 64))) fun i j => i * 2 ^ j.toNat
def gShr : E → E → M E := gI (fun _ j => decide (0 ≤ j)) fun i j => i / 2 ^ j.toNat
def gBand : E → E → M E := gI (fun _ _ => true) Builtin.bitAnd
def gBor : E → E → M E := gI (fun _ _ => true) Builtin.bitOr
section
variable {X : Cx} {P : Par} {PV : List V} {W : WX} {a b : Expr} {fa fb : M E} {pos : Pos}
theorem de_sub (ha : PE X a (LE P PV W fa)) (hb : PE X b (LE P PV W fb)) : PE X (.BinOp a .Sub b pos) (LE P PV W (eBin gSub fa fb)) := de_op op_sub (opd_int fun i j H Q _ q => ⟨i, j, rfl, rfl, q⟩) ha hb
theorem de_fdiv (ha : PE X a (LE P PV W fa)) (hb : PE X b (LE P PV W fb)) : PE X (.BinOp a .FloorDiv b pos) (LE P PV W (eBin gFdiv fa fb)) := de_op op_fdivW (opd_int fun i j H Q t q => by
  rw [Bool.and_eq_true] at t
  exact ⟨i, j, rfl, rfl, ⟨of_decide_eq_true t.1, of_decide_eq_true t.2⟩, q⟩) ha hb
theorem de_mod (ha : PE X a (LE P PV W fa)) (hb : PE X b (LE P PV W fb)) : PE X (.BinOp a .Mod b pos) (LE P PV W (eBin gMod fa fb)) := de_op op_mod (opd_int fun i j H Q t q => ⟨i, j, rfl, rfl, of_decide_eq_true t, q⟩) ha hb
theorem tpow {i j : Int} (t : (decide (0 ≤ j) && (decide (j ≤ 1000000) && decide (i.natAbs < 2 ^ 64))) = true) : CPow i j := by
  rw [Bool.and_eq_true, Bool.and_eq_true] at t
  exact ⟨of_decide_eq_true t.1, of_decide_eq_true t.2.1, of_decide_eq_true t.2.2⟩
theorem de_pow (ha : PE X a (LE P PV W fa)) (hb : PE X b (LE P PV W fb)) : PE X (.BinOp a .Pow b pos) (LE P PV W (eBin gPow fa fb)) := de_op op_pow (opd_int fun i j H Q t q => ⟨i, j, rfl, rfl, tpow t, q⟩) ha hb
theorem de_shl (ha : PE X a (LE P PV W fa)) (hb : PE X b (LE P PV W fb)) : PE X (.BinOp a .LShift b pos) (LE P PV W (eBin gShl fa fb)) := de_op op_shl (opd_int fun i j H Q t q => ⟨i, j, rfl, rfl, tpow t, q⟩) ha hb
theorem de_shr (ha : PE X a (LE P PV W fa)) (hb : PE X b (LE P PV W fb)) : PE X (.BinOp a .RShift b pos) (LE P PV W (eBin gShr fa fb)) := de_op op_shr (opd_int fun i j H Q t q => ⟨i, j, rfl, rfl, of_decide_eq_true t, q⟩) ha hb
theorem de_band (ha : PE X a (LE P PV W fa)) (hb : PE X b (LE P PV W fb)) : PE X (.BinOp a .BitAnd b pos) (LE P PV W (eBin gBand fa fb)) := de_op op_and (opd_int fun i j H Q t q => ⟨i, j, rfl, rfl, q⟩) ha hb
theorem de_bor (ha : PE X a (LE P PV W fa)) (hb : PE X b (LE P PV W fb)) : PE X (.BinOp a .BitOr b pos) (LE P PV W (eBin gBor fa fb)) := de_op op_or (opd_int fun i j H Q t q => ⟨i, j, rfl, rfl, q⟩) ha hb
end
/-- + of ints, an int and a truth, texts, tuples, lists -/
def gAdd (a b : E) : M E := fun ρ s => match a, b with
  | .v (.int i), .v (.int j) => .ok (.v (.int (i + j))) ρ s
  | .v (.str x), .v (.str y) => if x.length + y.length ≤ sizeLine then .ok (.v (.str (x ++ y))) ρ s else .no
  | .v (.tup xs), .v (.tup ys) => if xs.length + ys.length ≤ sizeLine then .ok (.v (.tup (xs ++ ys))) ρ s else .no
  | a, b => match con a ρ s, con b ρ s with
    | some (.lst xs), some (.lst ys) => if xs.length + ys.length ≤ sizeLine then .ok (.f (.lst (xs ++ ys))) ρ s else .no
    | _, _ => .no
def rAddA (K : PySem.W.Frag) : R2 := fun x y H Q => ((∃ i j, x = .int i ∧ y = .int j ∧ Q (.int (i + j)) H) ∨ (∃ i j, x = .str i ∧ y = .str j ∧ i.length + j.length ≤ sizeLine ∧ Q (.str (i ++ j)) H)) ∨ (rCatA K x y H Q ∨ rCat x y H Q)
theorem opd_add {P : Par} {PV : List V} {W : WX} : OpD P PV W gAdd (rAddA P.K) := by
  intro σ z H1 H2 x y a b Q S ra rb A
  unfold gAdd at A
  split at A
  · rename_i i j
    cases ra.int
    cases rb.int
    exact .inl (.inl ⟨i, j, rfl, rfl, acc_val S (.int _) A⟩)
  · rename_i u w
    cases ra.str
    cases rb.str
    split at A
    · rename_i hz
      exact .inl (.inr ⟨u, w, rfl, rfl, hz, acc_val S (.str _) A⟩)
    · exact A.elim
  · rename_i xs ys
    split at A
    · rename_i hz
      obtain ⟨p, vs, rfl, h1, l1, f1⟩ := ra.tup S
      obtain ⟨q, ws, rfl, h2, l2, f2⟩ := rb.tup S
      have e1 := l1.length
      have e2 := l2.length
      refine .inr (.inl ⟨p, q, vs, ws, rfl, rfl, h1, h2, by omega, fun e => ?_, fun _ e => ?_, fun _ _ t ht => ?_⟩)
      · subst e
        cases l1
        exact acc_val S (.tup f2 l2) A
      · subst e
        cases l2
        rw [List.append_nil] at A
        exact acc_val S (.tup f1 l1) A
      · exact acc_newT S ht (l1.append l2) A
    · exact A.elim
  · split at A
    · rename_i xs ys hc1 hc2
      split at A
      · rename_i hz
        obtain ⟨p, rfl, vs, h1, l1⟩ := con_ok S ra hc1
        obtain ⟨q, rfl, ws, h2, l2⟩ := con_ok S rb hc2
        have e1 := l1.length
        have e2 := l2.length
        exact .inr (.inr ⟨p, q, vs, ws, rfl, rfl, h1, h2, by omega, fun t ht => acc_newL S ht (l1.append l2) A⟩)
      · exact A.elim
    · exact A.elim
theorem op_addA {X : Cx} : OpR X (binaryOp .Add) (rAddA X.K) := OpR.or (OpR.or op_add op_add_str) (OpR.or op_catA op_cat)
section
variable {X : Cx} {PV : List V} {W : WX} {G : Str → Addr} {a b : Expr} {fa fb : M E} {pos : Pos}
theorem de_add {P : Par} (hP : P.K = X.K) (ha : PE X a (LE P PV W fa)) (hb : PE X b (LE P PV W fb)) : PE X (.BinOp a .Add b pos) (LE P PV W (eBin gAdd fa fb)) := de_op (by rw [hP]; exact op_addA) opd_add ha hb
end
end DL
set_option Elab.async false
set_option linter.all false
set_option maxRecDepth 100000
set_option maxHeartbeats 4000000
/-! DL5: data, comparisons, truth, tests, displays, subscripts, slices. -/
namespace DL
open PySem L2

/-! ### plain data -/
def mapO {α β : Type} (f : α → Option β) : List α → Option (List β)
  | [] => some []
  | x :: xs => match f x, mapO f xs with
    | some y, some ys => some (y :: ys)
    | _, _ => none
def pyD (s : List Cl) : Nat → D → Option PyData
  | 0, _ => none
  | n + 1, d => match d with
    | .non => some .none
    | .bl b => some (.bool b)
    | .int i => some (.int i)
    | .str x => some (.str x)
    | .tup xs => (mapO (pyD s n) xs).map .tuple
    | .kt xs => (mapO (pyD s n) xs).map .tuple
    | .lst xs => (mapO (pyD s n) xs).map .list
    | .ref k => match s[k]? with
      | some (.lst xs) => (mapO (pyD s n) xs).map .list
      | _ => none
    | _ => none
def pyE (e : E) (ρ : List Sl) (s : List Cl) : Option PyData := match e with
  | .v d => pyD s 12 d
  | e => match con e ρ s with
    | some (.lst xs) => (mapO (pyD s 12) xs).map .list
    | _ => none
section
variable {P : Par} {PV : List V} {W : WX} {σ : L2.St} {z : Z} {v : V} {H0 : Hp}
theorem mapO_dp {f : D → Option PyData} (hf : ∀ v d p, Rep P z.F z.m v d → f d = some p → Dp P.K z.H v p) : ∀ {vs : List V} {ds : List D} {ps : List PyData}, RepL P z.F z.m vs ds → mapO f ds = some ps → DpAll P.K z.H vs ps
  | _, _, _, .nil, h => by cases h; exact .nil
  | _, _, _, .cons (d := d) (ds := ds) r l, h => by
    unfold mapO at h
    cases h1 : f d with
    | none => rw [h1] at h; cases h
    | some y =>
      cases h2 : mapO f ds with
      | none => rw [h1, h2] at h; cases h
      | some ys =>
        rw [h1, h2] at h
        cases h
        exact .cons (hf _ _ _ r h1) (mapO_dp hf l h2)
theorem pyD_ok (S : SR P PV σ z) : ∀ (n : Nat) (v : V) (d : D) (p : PyData), Rep P z.F z.m v d → pyD z.s n d = some p → Dp P.K z.H v p
  | 0, _, _, _, _, h => by cases h
  | n + 1, v, d, p, r, h => by
    have ih := pyD_ok S n
    have lst : ∀ {vs : List V} {ds : List D} {a : Addr} {q : PyData}, z.H a = some (.lst vs) → RepL P z.F z.m vs ds → (mapO (pyD z.s n) ds).map PyData.list = some q → Dp P.K z.H (.ref a) q := fun {vs ds a q} e l h => by
      cases h1 : mapO (pyD z.s n) ds with
      | none => rw [h1] at h; cases h
      | some ys => rw [h1] at h; cases h; exact .lst (SqL.of e) (mapO_dp ih l h1)
    cases r with
    | non => cases h; exact .non
    | bl b => cases h; exact .bl b
    | int i => cases h; exact .int i
    | str x => cases h; exact .str x
    | ty n => cases h
    | @tup a vs ds h1 l =>
      have h' : (mapO (pyD z.s n) ds).map PyData.tuple = some p := h
      cases h2 : mapO (pyD z.s n) ds with
      | none => rw [h2] at h'; cases h'
      | some ys => rw [h2] at h'; cases h'; exact .tup (SqT.of ((S.fz a _ h1).elim id fun ⟨x, _⟩ => x.elim)) (mapO_dp ih l h2)
    | @kt a vs ds h1 l =>
      have h' : (mapO (pyD z.s n) ds).map PyData.tuple = some p := h
      cases h2 : mapO (pyD z.s n) ds with
      | none => rw [h2] at h'; cases h'
      | some ys => rw [h2] at h'; cases h'; exact .tup (h1 _) (mapO_dp ih l h2)
    | @lst a vs ds h1 l =>
      refine lst (vs := vs) (ds := ds) ?_ l h
      rcases S.fz a _ h1 with e | ⟨x, _⟩
      · exact e
      · exact x.elim
    | dk h1 h2 h3 => cases h
    | dt h1 h2 h3 => cases h
    | ins h1 h2 h3 => cases h
    | @ref k a h1 =>
      have h' : (match z.s[k]? with | some (.lst xs) => (mapO (pyD z.s n) xs).map PyData.list | _ => none) = some p := h
      cases h2 : z.s[k]? with
      | none => rw [h2] at h'; cases h'
      | some c =>
        rw [h2] at h'
        cases c with
        | lst ds => obtain ⟨vs, e, l⟩ := (S.cl k a _ h1 h2).2; exact lst e l h'
        | dk ks ds => cases h'
        | dt ks ds => cases h'
        | ins c ns ds => cases h'
    | ob a => cases h
    | scr h1 => cases h
theorem pyE_ok {e : E} {p : PyData} (S : SR P PV σ z) (r : ER P σ z H0 v e) (h : pyE e z.ρ z.s = some p) : Dp P.K z.H v p := by
  have key : (match con e z.ρ z.s with | some (.lst xs) => (mapO (pyD z.s 12) xs).map PyData.list | _ => none) = some p → Dp P.K z.H v p := fun h => by
    cases h1 : con e z.ρ z.s with
    | none => rw [h1] at h; cases h
    | some c =>
      rw [h1] at h
      cases c with
      | lst ds =>
        obtain ⟨a, rfl, vs, e1, l⟩ := con_ok S r h1
        have h' : (mapO (pyD z.s 12) ds).map PyData.list = some p := h
        cases h2 : mapO (pyD z.s 12) ds with
        | none => rw [h2] at h'; cases h'
        | some ys => rw [h2] at h'; cases h'; exact .lst (SqL.of e1) (mapO_dp (pyD_ok S 12) l h2)
      | dk ks ds => cases h
      | dt ks ds => cases h
      | ins c ns ds => cases h
  cases e with
  | v d => exact pyD_ok S 12 v d p r h
  | l i => exact key h
  | f c => exact key h
end

/-! ### comparisons -/
/-- an int comparison -/
def gC (f : Int → Int → Bool) : E → E → M E
  | .v (.int i), .v (.int j) => fun ρ s => .ok (.v (.bl (f i j))) ρ s
  | _, _ => M.no
def gEqn (neg : Bool) (a b : E) : M E := fun ρ s => match a, b with
  | .v (.int i), .v (.int j) => .ok (.v (.bl (if neg then !decide (i = j) else decide (i = j)))) ρ s
  | .v (.str x), .v (.str y) => .ok (.v (.bl (if neg then !decide (x = y) else decide (x = y)))) ρ s
  | a, b => match pyE a ρ s, pyE b ρ s with
    | some p, some q => if SeqAt.shaped p = true ∧ SeqAt.shaped q = true then .ok (.v (.bl (if neg then !PyData.eqv p q else PyData.eqv p q))) ρ s else .no
    | _, _ => .no
abbrev gEq := gEqn false
abbrev gNe := gEqn true
def gIsN (neg : Bool) (a b : E) : M E := fun ρ s => match b with
  | .v .non => match a with
    | .v .non => .ok (.v (.bl (!neg))) ρ s
    | .v (.ob _) => .no
    | _ => .ok (.v (.bl neg)) ρ s
  | _ => .no
/-- x in a list of data, in a tuple of flat ones, a text in a text, a key in a dict -/
def flatD : D → Bool
  | .non | .bl _ | .int _ | .str _ => true
  | _ => false
def eqD : D → D → Bool
  | .non, .non => true
  | .bl a, .bl b => a == b
  | .bl a, .int j => (if a then 1 else 0) == j
  | .int i, .bl b => i == (if b then 1 else 0)
  | .int i, .int j => i == j
  | .str x, .str y => x == y
  | _, _ => false
section
variable {P : Par} {PV : List V} {W : WX}
theorem opd_cmp {f : Int → Int → Bool} {r : R2} (hr : ∀ i j H Q, Q (.bl (f i j)) H → r (.int i) (.int j) H Q) : OpD P PV W (gC f) r := by
  intro σ z H1 H2 x y a b Q S ra rb A
  unfold gC at A
  split at A
  · cases ra.int
    cases rb.int
    exact hr _ _ _ _ (acc_val S (.bl _) A)
  · exact A.elim
theorem opd_eq {K : PySem.W.Frag} (hK : P.K = K) : OpD P PV W gEq (fun x y H Q => rEq x y H Q ∨ rEqD K x y H Q) := by
  subst hK
  intro σ z H1 H2 x y a b Q S ra rb A
  unfold gEq gEqn at A
  split at A
  · rename_i i j
    cases ra.int
    cases rb.int
    refine .inl ⟨rfl, ?_⟩
    have e : decide (V.int i = V.int j) = decide (i = j) := by
      by_cases h : i = j
      · rw [h, decide_eq_true rfl, decide_eq_true rfl]
      · rw [decide_eq_false h, decide_eq_false (fun q => h (by injection q))]
    rw [e]
    exact acc_val S (.bl _) A
  · rename_i u w
    cases ra.str
    cases rb.str
    refine .inl ⟨rfl, ?_⟩
    have e : decide (V.str u = V.str w) = decide (u = w) := by
      by_cases h : u = w
      · rw [h, decide_eq_true rfl, decide_eq_true rfl]
      · rw [decide_eq_false h, decide_eq_false (fun q => h (by injection q))]
    rw [e]
    exact acc_val S (.bl _) A
  · split at A
    · rename_i p q hp hq
      split at A
      · rename_i hs
        exact .inr ⟨p, q, pyE_ok S ra hp, pyE_ok S rb hq, hs.1, hs.2, acc_val S (.bl _) A⟩
      · exact A.elim
    · exact A.elim
theorem opd_ne {K : PySem.W.Frag} (hK : P.K = K) : OpD P PV W gNe (fun x y H Q => rNe x y H Q ∨ rNeD K x y H Q) := by
  subst hK
  intro σ z H1 H2 x y a b Q S ra rb A
  unfold gNe gEqn at A
  split at A
  · rename_i i j
    cases ra.int
    cases rb.int
    refine .inl ⟨rfl, ?_⟩
    have e : decide (V.int i = V.int j) = decide (i = j) := by
      by_cases h : i = j
      · rw [h, decide_eq_true rfl, decide_eq_true rfl]
      · rw [decide_eq_false h, decide_eq_false (fun q => h (by injection q))]
    rw [e]
    exact acc_val S (.bl _) A
  · rename_i u w
    cases ra.str
    cases rb.str
    refine .inl ⟨rfl, ?_⟩
    have e : decide (V.str u = V.str w) = decide (u = w) := by
      by_cases h : u = w
      · rw [h, decide_eq_true rfl, decide_eq_true rfl]
      · rw [decide_eq_false h, decide_eq_false (fun q => h (by injection q))]
    rw [e]
    exact acc_val S (.bl _) A
  · split at A
    · rename_i p q hp hq
      split at A
      · rename_i hs
        exact .inr ⟨p, q, pyE_ok S ra hp, pyE_ok S rb hq, hs.1, hs.2, acc_val S (.bl _) A⟩
      · exact A.elim
    · exact A.elim
end
section
variable {X : Cx} {G : Str → Addr} {PV : List V} {W : WX} {a b c : Expr} {fa fb fc : M E} {pos : Pos}
abbrev pk (X : Cx) (G : Str → Addr) : Par := ⟨X.K, G⟩
theorem de_lt (ha : PE X a (LE (pk X G) PV W fa)) (hb : PE X b (LE (pk X G) PV W fb)) : PE X (.Compare a [.Lt] [b] pos) (LE (pk X G) PV W (eBin (gC fun i j => decide (i < j)) fa fb)) := de_cmp op_lt (opd_cmp fun i j H Q q => ⟨i, j, rfl, rfl, q⟩) ha hb (nomark _)
theorem de_le (ha : PE X a (LE (pk X G) PV W fa)) (hb : PE X b (LE (pk X G) PV W fb)) : PE X (.Compare a [.LtE] [b] pos) (LE (pk X G) PV W (eBin (gC fun i j => decide (i ≤ j)) fa fb)) := de_cmp op_le (opd_cmp fun i j H Q q => ⟨i, j, rfl, rfl, q⟩) ha hb (nomark _)
theorem de_gt (ha : PE X a (LE (pk X G) PV W fa)) (hb : PE X b (LE (pk X G) PV W fb)) : PE X (.Compare a [.Gt] [b] pos) (LE (pk X G) PV W (eBin (gC fun i j => decide (j < i)) fa fb)) := de_cmp op_gt (opd_cmp fun i j H Q q => ⟨i, j, rfl, rfl, q⟩) ha hb (nomark _)
theorem de_ge (ha : PE X a (LE (pk X G) PV W fa)) (hb : PE X b (LE (pk X G) PV W fb)) : PE X (.Compare a [.GtE] [b] pos) (LE (pk X G) PV W (eBin (gC fun i j => decide (j ≤ i)) fa fb)) := de_cmp op_ge (opd_cmp fun i j H Q q => ⟨i, j, rfl, rfl, q⟩) ha hb (nomark _)
theorem de_eq (hu : X.A.units + 64 < cLine) (ha : PE X a (LE (pk X G) PV W fa)) (hb : PE X b (LE (pk X G) PV W fb)) : PE X (.Compare a [.Eq] [b] pos) (LE (pk X G) PV W (eBin gEq fa fb)) := de_cmp (op_eq.or (op_eqD hu)) (opd_eq rfl) ha hb (nomark _)
theorem de_ne (hu : X.A.units + 64 < cLine) (ha : PE X a (LE (pk X G) PV W fa)) (hb : PE X b (LE (pk X G) PV W fb)) : PE X (.Compare a [.NotEq] [b] pos) (LE (pk X G) PV W (eBin gNe fa fb)) := de_cmp (op_ne.or (op_neD hu)) (opd_ne rfl) ha hb (nomark _)
theorem de_mul (ha : PE X a (LE (pk X G) PV W fa)) (hb : PE X b (LE (pk X G) PV W fb)) : PE X (.BinOp a .Mult b pos) (LE (pk X G) PV W (eBin (gI tMulW (· * ·)) fa fb)) :=
  de_op op_mulW (opd_int fun i j H Q t q => ⟨i, j, rfl, rfl, (by unfold tMulW at t; exact of_decide_eq_true t : i.natAbs.log2 + j.natAbs.log2 < 1000000), q⟩) ha hb
end

/-! ### truth, tests -/
def truE (e : E) : M Bool := fun ρ s => match e with
  | .v .non => .ok false ρ s
  | .v (.bl b) => .ok b ρ s
  | .v (.int i) => .ok (i != 0) ρ s
  | .v (.str x) => if x.length ≤ sizeLine then .ok ((x.length : Int) != 0) ρ s else .no
  | .v (.tup xs) => .ok (!xs.isEmpty) ρ s
  | .v (.kt xs) => .ok (!xs.isEmpty) ρ s
  | e => match con e ρ s with
    | some (.lst xs) => .ok (!xs.isEmpty) ρ s
    | _ => .no
theorem RepL.emp {P : Par} {F : Hp} {m : List Addr} {vs : List V} {ds : List D} (l : RepL P F m vs ds) : vs.isEmpty = ds.isEmpty := by cases l <;> rfl
section
variable {P : Par} {PV : List V} {W : WX} {σ : L2.St} {z : Z}
theorem tru_acc {v : V} {e : E} {H0 : Hp} {α β : Type} {rel : Z → β → α → Prop} {k : Bool → M α} {Q : β → Hp → Prop} (S : SR P PV σ z) (r : ER P σ z H0 v e) (A : Acc P PV W σ z rel (M.bind (truE e) k z.ρ z.s) Q) :
    ∃ b, TruV P.K v z.H b ∧ Acc P PV W σ z rel (k b z.ρ z.s) Q := by
  unfold M.bind truE at A
  split at A
  · rename_i b ρ' s' hb
    split at hb
    · cases hb; cases r.non; exact ⟨false, rfl, A⟩
    · cases hb; cases r.bl; exact ⟨_, rfl, A⟩
    · cases hb; cases r.int; exact ⟨_, rfl, A⟩
    · split at hb
      · rename_i hz; cases hb; cases r.str; exact ⟨_, ⟨hz, rfl⟩, A⟩
      · cases hb
    · cases hb
      obtain ⟨a, vs, rfl, h1, l, _⟩ := r.tup S
      exact ⟨_, .inr (.inl ⟨vs, h1, by rw [l.emp]⟩), A⟩
    · cases hb
      obtain ⟨a, vs, rfl, h1, l⟩ := r.kt
      exact ⟨_, .inr (.inl ⟨vs, h1, by rw [l.emp]⟩), A⟩
    · split at hb
      · rename_i xs hc
        cases hb
        obtain ⟨a, rfl, vs, h1, l⟩ := con_ok S r hc
        exact ⟨_, .inl ⟨vs, SqL.of h1, by rw [l.emp]⟩, A⟩
      · cases hb
  · rename_i hb
    split at hb
    · cases hb
    · cases hb
    · cases hb
    · split at hb <;> cases hb
    · cases hb
    · cases hb
    · split at hb <;> cases hb
  · exact A.elim
end
def tE (f : M E) : M Bool := M.bind f truE
def blE (e : E) : M Bool := fun ρ s => match e with
  | .v (.bl b) => .ok b ρ s
  | _ => .no
def tB (f : M E) : M Bool := M.bind f blE
section
variable {X : Cx} {G : Str → Addr} {PV : List V} {W : WX} {a b c : Expr} {fa fb fc : M E} {ft fu : M Bool} {rest : List Expr} {pos : Pos}
theorem trel_org {H0 H1 : Hp} {z : Z} {b x : Bool} (_ : ∀ a, H1 a = none → H0 a = none) (q : trel z b x) : trel z b x := q
theorem M.bind_pure {α : Type} (f : M α) : M.bind f M.pure = f := by
  funext ρ s
  unfold M.bind M.pure
  cases f ρ s <;> rfl
/-- an expression of any kind as a test -/
theorem dt_truth (ha : PE X a (LE (pk X G) PV W fa)) (he : ∀ whole, isTrue a X.env whole = (do let v ← whole; standAt a.pos; holding [v] (truthy v)) := by intro _; rfl) : PT X a (LT (pk X G) PV W (tE fa)) :=
  PTi (pt_truth ha he) fun σ H Q h => le_bind (rel := fun _ => trel) trel_org h fun z1 v e S r A => by
    rw [← M.bind_pure (truE e)] at A
    obtain ⟨b, h1, A'⟩ := tru_acc S r A
    exact ⟨b, h1, A' b z1.F z1.H z1.m EX.refl S rfl⟩
/-- a truth, as a test -/
theorem tb_acc {P : Par} {σ : L2.St} {z : Z} {v : V} {e : E} {H0 : Hp} {α β : Type} {rel : Z → β → α → Prop} {k : Bool → M α} {Q : β → Hp → Prop} (r : ER P σ z H0 v e) (A : Acc P PV W σ z rel (M.bind (blE e) k z.ρ z.s) Q) :
    ∃ b, v = .bl b ∧ Acc P PV W σ z rel (k b z.ρ z.s) Q := by
  unfold M.bind blE at A
  split at A
  · rename_i b ρ' s' hb
    split at hb
    · cases hb; exact ⟨_, r.bl, A⟩
    · cases hb
  · rename_i hb
    split at hb <;> cases hb
  · exact A.elim
theorem dt_val {e : Expr} (h : PE X e (LE (pk X G) PV W fa)) (he : ∀ whole, isTrue e X.env whole = (do let v ← whole; standAt e.pos; holding [v] (truthy v)) := by intro _; rfl) : PT X e (LT (pk X G) PV W (tB fa)) :=
  PTi (pt_val h he) fun σ H Q hq => le_bind (rel := fun _ => trel) trel_org hq fun z1 v e S r A => by
    rw [← M.bind_pure (blE e)] at A
    obtain ⟨b, h1, A'⟩ := tb_acc r A
    exact ⟨b, h1, A' b z1.F z1.H z1.m EX.refl S rfl⟩
theorem dt_cmp {op : CmpOp} {g : E → E → M E} {r : R2} (ho : OpR X (compareOp op) r) (h : OpD (pk X G) PV W g r) (ha : PE X a (LE (pk X G) PV W fa)) (hb : PE X b (LE (pk X G) PV W fb)) (hm : behindInMarks op b = false) :
    PT X (.Compare a [op] [b] pos) (LT (pk X G) PV W (tB (eBin g fa fb))) := by
  refine PTi (pt_cmpR ho ha hb hm) fun σ H Q hq => ?_
  refine le_bin h σ H _ (le_bind (rel := fun _ => trel) trel_org hq fun z1 v e S r A => ?_)
  rw [← M.bind_pure (blE e)] at A
  obtain ⟨b, h1, A'⟩ := tb_acc r A
  exact ⟨b, h1, A' b z1.F z1.H z1.m EX.refl S rfl⟩
theorem dt_lt (ha : PE X a (LE (pk X G) PV W fa)) (hb : PE X b (LE (pk X G) PV W fb)) : PT X (.Compare a [.Lt] [b] pos) (LT (pk X G) PV W (tB (eBin (gC fun i j => decide (i < j)) fa fb))) := dt_cmp op_lt (opd_cmp fun i j H Q q => ⟨i, j, rfl, rfl, q⟩) ha hb (nomark _)
theorem dt_le (ha : PE X a (LE (pk X G) PV W fa)) (hb : PE X b (LE (pk X G) PV W fb)) : PT X (.Compare a [.LtE] [b] pos) (LT (pk X G) PV W (tB (eBin (gC fun i j => decide (i ≤ j)) fa fb))) := dt_cmp op_le (opd_cmp fun i j H Q q => ⟨i, j, rfl, rfl, q⟩) ha hb (nomark _)
theorem dt_gt (ha : PE X a (LE (pk X G) PV W fa)) (hb : PE X b (LE (pk X G) PV W fb)) : PT X (.Compare a [.Gt] [b] pos) (LT (pk X G) PV W (tB (eBin (gC fun i j => decide (j < i)) fa fb))) := dt_cmp op_gt (opd_cmp fun i j H Q q => ⟨i, j, rfl, rfl, q⟩) ha hb (nomark _)
theorem dt_ge (ha : PE X a (LE (pk X G) PV W fa)) (hb : PE X b (LE (pk X G) PV W fb)) : PT X (.Compare a [.GtE] [b] pos) (LT (pk X G) PV W (tB (eBin (gC fun i j => decide (j ≤ i)) fa fb))) := dt_cmp op_ge (opd_cmp fun i j H Q q => ⟨i, j, rfl, rfl, q⟩) ha hb (nomark _)
theorem dt_eq (hu : X.A.units + 64 < cLine) (ha : PE X a (LE (pk X G) PV W fa)) (hb : PE X b (LE (pk X G) PV W fb)) : PT X (.Compare a [.Eq] [b] pos) (LT (pk X G) PV W (tB (eBin gEq fa fb))) := dt_cmp (op_eq.or (op_eqD hu)) (opd_eq rfl) ha hb (nomark _)
theorem dt_ne (hu : X.A.units + 64 < cLine) (ha : PE X a (LE (pk X G) PV W fa)) (hb : PE X b (LE (pk X G) PV W fb)) : PT X (.Compare a [.NotEq] [b] pos) (LT (pk X G) PV W (tB (eBin gNe fa fb))) := dt_cmp (op_ne.or (op_neD hu)) (opd_ne rfl) ha hb (nomark _)
/-! and, or, not of tests -/
def tAnd (f g : M Bool) : M Bool := M.bind f fun b => if b = true then g else M.pure false
def tOr (f g : M Bool) : M Bool := M.bind f fun b => if b = true then M.pure true else g
def tNot (f : M Bool) : M Bool := M.bind f fun b => M.pure (!b)
theorem dw_and1 (ha : PT X a (LT (pk X G) PV W ft)) : PW X (.BoolOp .And [a] pos) (LT (pk X G) PV W ft) := pw_and1 ha
theorem dw_or1 (ha : PT X a (LT (pk X G) PV W ft)) : PW X (.BoolOp .Or [a] pos) (LT (pk X G) PV W ft) := pw_or1 ha
theorem dw_and (ha : PT X a (LT (pk X G) PV W ft)) (hb : PW X (.BoolOp .And (b :: rest) pos) (LT (pk X G) PV W fu)) : PW X (.BoolOp .And (a :: b :: rest) pos) (LT (pk X G) PV W (tAnd ft fu)) :=
  PWi (pw_and ha hb) fun σ H Q hq => lt_bind (rel := fun _ => trel) trel_org hq fun z1 k S A => by
    cases k with
    | true => rw [if_pos rfl]; rw [if_pos rfl] at A; exact ⟨z1, rfl, S, A⟩
    | false => rw [if_neg Bool.false_ne_true]; rw [if_neg Bool.false_ne_true] at A; exact A false z1.F z1.H z1.m EX.refl S rfl
theorem dw_or (ha : PT X a (LT (pk X G) PV W ft)) (hb : PW X (.BoolOp .Or (b :: rest) pos) (LT (pk X G) PV W fu)) : PW X (.BoolOp .Or (a :: b :: rest) pos) (LT (pk X G) PV W (tOr ft fu)) :=
  PWi (pw_or ha hb) fun σ H Q hq => lt_bind (rel := fun _ => trel) trel_org hq fun z1 k S A => by
    cases k with
    | true => rw [if_pos rfl]; rw [if_pos rfl] at A; exact A true z1.F z1.H z1.m EX.refl S rfl
    | false => rw [if_neg Bool.false_ne_true]; rw [if_neg Bool.false_ne_true] at A; exact ⟨z1, rfl, S, A⟩
theorem dt_not (ha : PT X a (LT (pk X G) PV W ft)) : PT X (.UnaryOp .Not a pos) (LT (pk X G) PV W (tNot ft)) :=
  PTi (pt_not ha) fun σ H Q hq => lt_bind (rel := fun _ => trel) trel_org hq fun z1 k S A => A (!k) z1.F z1.H z1.m EX.refl S rfl
/-! the same as values -/
def eAnd (f g : M E) : M E := M.bind f fun e => M.bind (truE e) fun b => if b = true then g else M.pure e
def eOr (f g : M E) : M E := M.bind f fun e => M.bind (truE e) fun b => if b = true then M.pure e else g
def eNot (f : M E) : M E := M.bind f fun e => M.bind (truE e) fun b => M.pure (.v (.bl (!b)))
theorem de_one {op} (h : PE X a (LE (pk X G) PV W fa)) : PE X (.BoolOp op [a] pos) (LE (pk X G) PV W fa) := pe_one h
theorem acc_keep {P : Par} {σ : L2.St} {z : Z} {v : V} {e : E} {Q : VK} {H0 : Hp} (S : SR P PV σ z) (r : ER P σ z H0 v e) (hv : ∀ c, e ≠ .f c) (A : Acc P PV W σ z (erel P σ z.H) (.ok e z.ρ z.s) Q) : Q v z.H := by
  refine A v z.F z.H z.m EX.refl S ?_
  cases e with
  | v d => exact r
  | l i => exact r
  | f c => exact absurd rfl (hv c)
end
end DL
set_option Elab.async false
set_option linter.all false
set_option maxRecDepth 100000
set_option maxHeartbeats 4000000
/-! DL6: and, or, not as values; a if t else b; argument lists; displays; subscripts; slices. -/
namespace DL
open PySem L2

def keepE : E → M E
  | .f _ => M.no
  | e => M.pure e
def eAndV (f g : M E) : M E := M.bind f fun e => M.bind (truE e) fun b => if b = true then g else keepE e
def eOrV (f g : M E) : M E := M.bind f fun e => M.bind (truE e) fun b => if b = true then keepE e else g
def eNotV (f : M E) : M E := M.bind f fun e => M.bind (truE e) fun b => M.pure (.v (.bl (!b)))
def eIf (t : M Bool) (f g : M E) : M E := M.bind t fun b => if b = true then f else g
section
variable {X : Cx} {G : Str → Addr} {PV : List V} {W : WX} {a b c : Expr} {fa fb fc : M E} {ft fu : M Bool} {rest : List Expr} {pos : Pos}
theorem acc_keepE {P : Par} {σ : L2.St} {z : Z} {v : V} {e : E} {Q : VK} {H0 : Hp} (S : SR P PV σ z) (r : ER P σ z H0 v e) (A : Acc P PV W σ z (erel P σ z.H) (keepE e z.ρ z.s) Q) : Q v z.H := by
  cases e with
  | v d => exact A v z.F z.H z.m EX.refl S r
  | l i => exact A v z.F z.H z.m EX.refl S r
  | f c => exact A.elim
theorem de_and (ha : PE X a (LE (pk X G) PV W fa)) (hb : PE X (.BoolOp .And (b :: rest) pos) (LE (pk X G) PV W fb)) : PE X (.BoolOp .And (a :: b :: rest) pos) (LE (pk X G) PV W (eAndV fa fb)) :=
  PEi (pe_andT ha hb) fun σ H Q hq => le_bind (rel := fun H => erel (pk X G) σ H) (fun k q => erel_org k q) hq fun z1 v e S r A => by
    obtain ⟨k, h1, A'⟩ := tru_acc S r A
    refine ⟨k, h1, ?_⟩
    cases k with
    | true => rw [if_pos rfl]; rw [if_pos rfl] at A'; exact ⟨z1, rfl, S, A'⟩
    | false => rw [if_neg Bool.false_ne_true]; rw [if_neg Bool.false_ne_true] at A'; exact acc_keepE S r A'
theorem de_or (ha : PE X a (LE (pk X G) PV W fa)) (hb : PE X (.BoolOp .Or (b :: rest) pos) (LE (pk X G) PV W fb)) : PE X (.BoolOp .Or (a :: b :: rest) pos) (LE (pk X G) PV W (eOrV fa fb)) :=
  PEi (pe_orT ha hb) fun σ H Q hq => le_bind (rel := fun H => erel (pk X G) σ H) (fun k q => erel_org k q) hq fun z1 v e S r A => by
    obtain ⟨k, h1, A'⟩ := tru_acc S r A
    refine ⟨k, h1, ?_⟩
    cases k with
    | true => rw [if_pos rfl]; rw [if_pos rfl] at A'; exact acc_keepE S r A'
    | false => rw [if_neg Bool.false_ne_true]; rw [if_neg Bool.false_ne_true] at A'; exact ⟨z1, rfl, S, A'⟩
theorem de_not (ha : PE X a (LE (pk X G) PV W fa)) : PE X (.UnaryOp .Not a pos) (LE (pk X G) PV W (eNotV fa)) :=
  PEi (pe_notT ha) fun σ H Q hq => le_bind (rel := fun H => erel (pk X G) σ H) (fun k q => erel_org k q) hq fun z1 v e S r A => by
    obtain ⟨k, h1, A'⟩ := tru_acc S r A
    exact ⟨k, h1, acc_val S (.bl _) A'⟩
theorem de_if (ht : PT X c (LT (pk X G) PV W ft)) (ha : PE X a (LE (pk X G) PV W fa)) (hb : PE X b (LE (pk X G) PV W fb)) : PE X (.IfExp c a b pos) (LE (pk X G) PV W (eIf ft fa fb)) :=
  PEi (pe_ifExp ht ha hb) fun σ H Q hq => lt_bind (rel := fun H => erel (pk X G) σ H) (fun k q => erel_org k q) hq fun z1 k S A => by
    cases k with
    | true => rw [if_pos rfl]; rw [if_pos rfl] at A; exact ⟨z1, rfl, S, A⟩
    | false => rw [if_neg Bool.false_ne_true]; rw [if_neg Bool.false_ne_true] at A; exact ⟨z1, rfl, S, A⟩
/-- - i -/
def gNeg : E → M E
  | .v (.int i) => M.pure (.v (.int (-i)))
  | _ => M.no
theorem de_neg (ha : PE X a (LE (pk X G) PV W fa)) : PE X (.UnaryOp .USub a pos) (LE (pk X G) PV W (M.bind fa gNeg)) :=
  PEi (pe_un un_neg ha) fun σ H Q hq => le_bind (rel := fun H => erel (pk X G) σ H) (fun k q => erel_org k q) hq fun z1 v e S r A => by
    unfold gNeg at A
    split at A
    · cases r.int; exact ⟨_, rfl, acc_val S (.int _) A⟩
    · exact A.elim
/-- frozen -/
theorem dd {e : Expr} (h : PE X e (LE (pk X G) PV W fa)) : PE X e (LD (pk X G) PV W (M.bind fa frz)) := PEi h fun σ H Q hq => by
  obtain ⟨z, rfl, S, A⟩ := hq
  refine ⟨z, rfl, S, ?_⟩
  unfold M.bind at A
  cases hf : fa z.ρ z.s with
  | no => rw [hf] at A; exact A.elim
  | ex c ns vs ρ s => rw [hf] at A; exact A
  | ok e ρ s =>
    rw [hf] at A
    intro v F H m x S1 r
    exact acc_frz S x S1 r A
end

/-! ### argument lists: of values; of what expressions come to -/
def aNil : M (List D) := M.pure []
def aCons (f : M D) (g : M (List D)) : M (List D) := M.bind f fun d => M.bind g fun ds => M.pure (d :: ds)
/-- a new thing is not among the later new ones -/
def FrNe (v : V) (e : E) (vs : List V) (es : List E) : Prop := ∀ c, e = .f c → ∀ (j : Nat) c', es[j]? = some (.f c') → vs[j]? ≠ some v
inductive ERs (P : Par) (σ : L2.St) (z : Z) (H0 : Hp) : List V → List E → Prop
  | nil : ERs P σ z H0 [] []
  | cons {v : V} {e : E} {vs : List V} {es : List E} : ER P σ z H0 v e → FrNe v e vs es → ERs P σ z H0 vs es → ERs P σ z H0 (v :: vs) (e :: es)
theorem ERs.length {P : Par} {σ : L2.St} {z : Z} {H0 : Hp} : ∀ {vs : List V} {es : List E}, ERs P σ z H0 vs es → vs.length = es.length
  | _, _, .nil => rfl
  | _, _, .cons _ _ l => congrArg (· + 1) l.length
theorem ERs.get {P : Par} {σ : L2.St} {z : Z} {H0 : Hp} : ∀ {vs : List V} {es : List E} {j : Nat} {e : E}, ERs P σ z H0 vs es → es[j]? = some e → ∃ v, vs[j]? = some v ∧ ER P σ z H0 v e
  | _, _, j, e, .nil, h => by simp at h
  | _, _, 0, e, .cons r _ _, h => by simp at h; subst h; exact ⟨_, rfl, r⟩
  | _, _, j + 1, e, .cons _ _ l, h => by
    obtain ⟨v, h1, h2⟩ := ERs.get (j := j) (e := e) l (by simpa using h)
    exact ⟨v, by simpa using h1, h2⟩
theorem ERs.ne {P : Par} {σ : L2.St} {z : Z} {H0 : Hp} : ∀ {vs : List V} {es : List E} {j k : Nat} {c c' : Cl} {v : V}, ERs P σ z H0 vs es → es[j]? = some (.f c) → es[k]? = some (.f c') → vs[j]? = some v → vs[k]? = some v → j = k
  | _, _, j, _, _, _, _, .nil, h, _, _, _ => by simp at h
  | _, _, 0, 0, _, _, _, .cons _ _ _, _, _, _, _ => rfl
  | _, _, 0, k + 1, c, c', v, .cons _ n _, h1, h2, h3, h4 => by
    simp at h1 h2 h3 h4
    exact absurd (by rw [h4, h3]) (n c h1 k c' h2)
  | _, _, j + 1, 0, c, c', v, .cons _ n _, h1, h2, h3, h4 => by
    simp at h1 h2 h3 h4
    exact absurd (by rw [h3, h4]) (n c' h2 j c h1)
  | _, _, j + 1, k + 1, c, c', v, .cons _ _ l, h1, h2, h3, h4 => by
    simp at h1 h2 h3 h4
    rw [ERs.ne l h1 h2 h3 h4]
abbrev eslrel (P : Par) (σ : L2.St) (H0 : Hp) : Z → List V → List E → Prop := fun z vs es => ERs P σ z H0 vs es
theorem ERs.org {P : Par} {σ : L2.St} {z : Z} {H0 H1 : Hp} (k : ∀ b, H1 b = none → H0 b = none) : ∀ {vs : List V} {es : List E}, ERs P σ z H1 vs es → ERs P σ z H0 vs es
  | _, _, .nil => .nil
  | _, _, .cons r n l => .cons (ER.org (z1 := z) k r) n (ERs.org k l)
def LEs (P : Par) (PV : List V) (W : WX) (f : M (List E)) : TA := fun σ H Q => ∃ z : Z, z.H = H ∧ SR P PV σ z ∧ Acc P PV W σ z (eslrel P σ H) (f z.ρ z.s) Q
def esNil : M (List E) := M.pure []
def esCons (f : M E) (g : M (List E)) : M (List E) := M.bind f fun d => M.bind g fun ds => M.pure (d :: ds)
section
variable {X : Cx} {G : Str → Addr} {PV : List V} {W : WX} {e a b : Expr} {es : List Expr} {fa fb : M E} {fd : M D} {fl : M (List D)} {fe : M (List E)} {pos : Pos}
theorem la_nil : PA X [] (LA (pk X G) PV W aNil) := PAi pa_nil fun σ H Q ⟨z, e, S, A⟩ => by subst e; exact A [] z.F z.H z.m EX.refl S .nil
theorem la_cons (ha : PE X e (LD (pk X G) PV W fd)) (hr : PA X es (LA (pk X G) PV W fl)) (hs : starEach (e :: es) X.env = (false, eval e X.env) :: starEach es X.env := by rfl) : PA X (e :: es) (LA (pk X G) PV W (aCons fd fl)) :=
  PAi (pa_cons ha hr hs) fun σ H Q hq => ld_bind (rel := fun _ => lrel (pk X G)) (fun _ q => q) hq fun z1 v d S r A =>
    ⟨z1, rfl, S, by
      unfold M.bind at A
      cases hf : fl z1.ρ z1.s with
      | no => rw [hf] at A; exact A.elim
      | ex c ns vs ρ s => rw [hf] at A; exact A
      | ok ds ρ s =>
        rw [hf] at A
        intro vs F H2 m x S2 l
        exact A (v :: vs) F H2 m x S2 (.cons (x.rep r) l)⟩
theorem ls_nil : PA X [] (LEs (pk X G) PV W esNil) := PAi pa_nil fun σ H Q ⟨z, e, S, A⟩ => by subst e; exact A [] z.F z.H z.m EX.refl S .nil
theorem ls_cons (ha : PE X e (LE (pk X G) PV W fa)) (hr : PA X es (LEs (pk X G) PV W fe)) (hs : starEach (e :: es) X.env = (false, eval e X.env) :: starEach es X.env := by rfl) : PA X (e :: es) (LEs (pk X G) PV W (esCons fa fe)) :=
  PAi (pa_cons ha hr hs) fun σ H Q hq => by
    obtain ⟨z, rfl, S0, A0⟩ := hq
    refine ⟨z, rfl, S0, ?_⟩
    unfold esCons M.bind at A0
    cases hf : fa z.ρ z.s with
    | no => rw [hf] at A0; exact A0.elim
    | ex c ns vs ρ s => rw [hf] at A0; exact A0
    | ok x ρ s =>
      rw [hf] at A0
      intro v F H m e1 S1 r
      refine ⟨⟨F, H, m, ρ, s⟩, rfl, S1, ?_⟩
      have A1 : Acc (pk X G) PV W σ z (eslrel (pk X G) σ z.H) (M.bind fe (fun ds => M.pure (x :: ds)) ρ s) Q := A0
      unfold M.bind at A1
      cases hg : fe ρ s with
      | no => rw [hg] at A1; exact A1.elim
      | ex c ns vs ρ s => rw [hg] at A1; exact fun F2 H2 m2 d e2 S2 q => A1 F2 H2 m2 d (e1.trans S0 e2) S2 q
      | ok ys ρ2 s2 =>
        rw [hg] at A1
        intro vs F2 H2 m2 e2 S2 l
        exact A1 (v :: vs) F2 H2 m2 (e1.trans S0 e2) S2 (.cons (r.up S1 e2) (fun c hc j c' hj q => by
          subst hc
          obtain ⟨a, rfl, _, _, _, hcr⟩ := r
          obtain ⟨o, ho⟩ := hcr.there
          obtain ⟨w, hw, rw'⟩ := l.get hj
          rw [q] at hw
          cases hw
          obtain ⟨b, eb, _, _, hn, _⟩ := rw'
          cases eb
          have ho : H a = some o := ho
          have hn : H a = none := hn
          rw [hn] at ho
          cases ho) (l.org fun b hb => e1.kn hb))
/-! displays -/
def eTup (f : M (List D)) : M E := M.bind f fun ds ρ s => if ds.length ≤ sizeLine then .ok (.v (.tup ds)) ρ s else .no
def eLst (f : M (List D)) : M E := M.bind f fun ds ρ s => if ds.length ≤ sizeLine then .ok (.f (.lst ds)) ρ s else .no
theorem la_bind {P : Par} {σ : L2.St} {H : Hp} {α β : Type} {f : M (List D)} {k : List D → M α} {rel : Hp → Z → β → α → Prop} {Q : β → Hp → Prop} {Q1 : List V → Hp → Prop} (hr : ∀ {H0 H1 : Hp} {z : Z} {b : β} {x : α}, (∀ a, H1 a = none → H0 a = none) → rel H1 z b x → rel H0 z b x)
    (h : ∃ z : Z, z.H = H ∧ SR P PV σ z ∧ Acc P PV W σ z (rel H) (M.bind f k z.ρ z.s) Q)
    (hk : ∀ z1 v e, SR P PV σ z1 → RepL P z1.F z1.m v e → Acc P PV W σ z1 (rel z1.H) (k e z1.ρ z1.s) Q → Q1 v z1.H) : LA P PV W f σ H Q1 := by
  obtain ⟨z, rfl, S, A⟩ := h
  refine ⟨z, rfl, S, ?_⟩
  unfold M.bind at A
  cases hf : f z.ρ z.s with
  | no => rw [hf] at A; exact A.elim
  | ex c ns vs ρ s => rw [hf] at A; exact A
  | ok e ρ s =>
    rw [hf] at A
    intro v F H1 m x S1 r
    exact hk ⟨F, H1, m, ρ, s⟩ v e S1 r (A.later S x fun z2 b y _ q => hr (fun a ha => x.kn ha) q)
theorem ls_bind {P : Par} {σ : L2.St} {H : Hp} {α β : Type} {f : M (List E)} {k : List E → M α} {rel : Hp → Z → β → α → Prop} {Q : β → Hp → Prop} {Q1 : List V → Hp → Prop} (hr : ∀ {H0 H1 : Hp} {z : Z} {b : β} {x : α}, (∀ a, H1 a = none → H0 a = none) → rel H1 z b x → rel H0 z b x)
    (h : ∃ z : Z, z.H = H ∧ SR P PV σ z ∧ Acc P PV W σ z (rel H) (M.bind f k z.ρ z.s) Q)
    (hk : ∀ z1 v e, SR P PV σ z1 → ERs P σ z1 H v e → Acc P PV W σ z1 (rel z1.H) (k e z1.ρ z1.s) Q → Q1 v z1.H) : LEs P PV W f σ H Q1 := by
  obtain ⟨z, rfl, S, A⟩ := h
  refine ⟨z, rfl, S, ?_⟩
  unfold M.bind at A
  cases hf : f z.ρ z.s with
  | no => rw [hf] at A; exact A.elim
  | ex c ns vs ρ s => rw [hf] at A; exact A
  | ok e ρ s =>
    rw [hf] at A
    intro v F H1 m x S1 r
    exact hk ⟨F, H1, m, ρ, s⟩ v e S1 r (A.later S x fun z2 b y _ q => hr (fun a ha => x.kn ha) q)
theorem de_tup {x1} (h : PA X es (LA (pk X G) PV W fl)) : PE X (.Tuple es x1 pos) (LE (pk X G) PV W (eTup fl)) :=
  PEi (pe_tup h) fun σ H Q hq => la_bind (rel := fun H => erel (pk X G) σ H) (fun k q => erel_org k q) hq fun z1 vs ds S l A => by
    have e := l.length
    split at A
    · rename_i hz
      exact ⟨by omega, fun p hp => acc_newT S hp l A⟩
    · exact A.elim
theorem de_lst (h : PA X es (LA (pk X G) PV W fl)) : PE X (.List es pos) (LE (pk X G) PV W (eLst fl)) :=
  PEi (pe_lst h) fun σ H Q hq => la_bind (rel := fun H => erel (pk X G) σ H) (fun k q => erel_org k q) hq fun z1 vs ds S l A => by
    have e := l.length
    split at A
    · rename_i hz
      exact ⟨by omega, fun p hp => acc_newL S hp l A⟩
    · exact A.elim
end

/-! ### subscripts -/
def gIx (a b : E) : M E := fun ρ s => match b with
  | .v (.int i) => match a with
    | .v (.tup xs) => match atI xs i with
      | some d => .ok (.v d) ρ s
      | none => .no
    | .v (.kt xs) => match atI xs i with
      | some d => .ok (.v d) ρ s
      | none => .no
    | .v (.str x) => if x.length ≤ sizeLine then match atI x.cps.toList i with
      | some c => .ok (.v (.str ⟨#[c]⟩)) ρ s
      | none => .no else .no
    | .v (.scr ns) => match atI ns i with
      | some d => .ok (.v (.int d)) ρ s
      | none => .no
    | a => match con a ρ s with
      | some (.lst xs) => match atI xs i with
        | some d => .ok (.v d) ρ s
        | none => .no
      | _ => .no
  | _ => .no
section
variable {P : Par} {PV : List V} {W : WX} {F : Hp} {m : List Addr}
theorem RepL.atI {vs : List V} {ds : List D} {i : Int} {d : D} (l : RepL P F m vs ds) (h : L2.atI ds i = some d) : ∃ v, L2.atI vs i = some v ∧ Rep P F m v d := by
  unfold L2.atI at h ⊢
  rw [l.length]
  cases e : ixN ds.length i with
  | none => rw [e] at h; cases h
  | some j => rw [e] at h; exact l.get h
theorem atI_map {α β : Type} (f : α → β) (xs : List α) (i : Int) : L2.atI (xs.map f) i = (L2.atI xs i).map f := by
  unfold L2.atI
  rw [List.length_map]
  cases ixN xs.length i with
  | none => rfl
  | some j =>
    show (xs.map f)[j]? = (xs[j]?).map f
    rw [List.getElem?_map]
theorem opd_ix {K : PySem.W.Frag} (hK : P.K = K) : OpD P PV W gIx (rIx K) := by
  subst hK
  intro σ z H1 H2 x y a b Q S ra rb A
  unfold gIx at A
  split at A
  · rename_i i
    cases rb.int
    split at A
    · rename_i xs
      obtain ⟨p, vs, rfl, h1, l, _⟩ := ra.tup S
      split at A
      · rename_i d hd
        obtain ⟨v, hv, r⟩ := l.atI hd
        exact .inr (.inl ⟨p, vs, i, v, rfl, rfl, h1, hv, acc_val S r A⟩)
      · exact A.elim
    · rename_i xs
      obtain ⟨p, vs, rfl, h1, l⟩ := ra.kt
      split at A
      · rename_i d hd
        obtain ⟨v, hv, r⟩ := l.atI hd
        exact .inr (.inl ⟨p, vs, i, v, rfl, rfl, h1, hv, acc_val S r A⟩)
      · exact A.elim
    · rename_i u
      cases ra.str
      split at A
      · rename_i hz
        split at A
        · rename_i c hc
          exact .inr (.inr ⟨u, i, c, rfl, rfl, hz, hc, acc_val S (.str _) A⟩)
        · exact A.elim
      · exact A.elim
    · rename_i ns
      obtain ⟨p, rfl, h1⟩ := ra.scr S
      split at A
      · rename_i d hd
        exact .inl ⟨p, _, i, .int d, rfl, rfl, h1, by rw [atI_map, hd] <;> rfl, acc_val S (.int _) A⟩
      · exact A.elim
    · split at A
      · rename_i xs hc
        obtain ⟨p, rfl, vs, h1, l⟩ := con_ok S ra hc
        split at A
        · rename_i d hd
          obtain ⟨v, hv, r⟩ := l.atI hd
          exact .inl ⟨p, vs, i, v, rfl, rfl, SqL.of h1, hv, acc_val S r A⟩
        · exact A.elim
      · exact A.elim
  · exact A.elim
end
section
variable {X : Cx} {G : Str → Addr} {PV : List V} {W : WX} {a b : Expr} {fa fb : M E} {pos : Pos}
theorem de_ix (ha : PE X a (LE (pk X G) PV W fa)) (hb : PE X b (LE (pk X G) PV W fb)) (hs : PlainIx b) : PE X (.Subscript a b pos) (LE (pk X G) PV W (eBin gIx fa fb)) :=
  PEi (pe_ix ix_seq ha hb hs) (le_bin (opd_ix rfl))
end
end DL
set_option Elab.async false
set_option linter.all false
set_option maxRecDepth 100000
set_option maxHeartbeats 4000000
/-! DL7: statements and targets. -/
namespace DL
open PySem L2

inductive Fl where | nx | rt (e : E) | bk | ct

def FlOk (P : Par) (σ' : L2.St) (z' : Z) (H0 : Hp) (D : Ends) : Fl → Prop
  | .nx => D.nx σ' z'.H
  | .bk => D.bk σ' z'.H
  | .ct => D.ct σ' z'.H
  | .rt e => ∀ v, ER P σ' z' H0 v e → D.rt v z'.H
/-- a statement's end is accepted -/
def AccS (P : Par) (PV : List V) (W : WX) (σ : L2.St) (z0 : Z) (r : R Fl) (D : Ends) : Prop := match r with
  | .ok fl ρ s => ∀ (σ' : L2.St) F H m, EX σ z0 σ' ⟨F, H, m, ρ, s⟩ → SR P PV σ' ⟨F, H, m, ρ, s⟩ → FlOk P σ' ⟨F, H, m, ρ, s⟩ z0.H D fl
  | .ex c ns vs ρ s => ∀ (σ' : L2.St) F H m d, EX σ z0 σ' ⟨F, H, m, ρ, s⟩ → SR P PV σ' ⟨F, H, m, ρ, s⟩ → XR P σ' ⟨F, H, m, ρ, s⟩ ns vs d → W (.ref (P.G c)) d σ' H
  | .no => False
/-- a store's -/
def AccU (P : Par) (PV : List V) (W : WX) (σ : L2.St) (z0 : Z) (r : R Unit) (Q : L2.St → Hp → Prop) : Prop := match r with
  | .ok _ ρ s => ∀ (σ' : L2.St) F H m, EX σ z0 σ' ⟨F, H, m, ρ, s⟩ → SR P PV σ' ⟨F, H, m, ρ, s⟩ → Q σ' H
  | .ex c ns vs ρ s => ∀ (σ' : L2.St) F H m d, EX σ z0 σ' ⟨F, H, m, ρ, s⟩ → SR P PV σ' ⟨F, H, m, ρ, s⟩ → XR P σ' ⟨F, H, m, ρ, s⟩ ns vs d → W (.ref (P.G c)) d σ' H
  | .no => False
section
variable {P : Par} {PV : List V} {W : WX} {σ σ1 : L2.St} {z0 z1 : Z} {D : Ends} {Q : L2.St → Hp → Prop}
theorem FlOk.org {σ' : L2.St} {z' : Z} {H0 H1 : Hp} {fl : Fl} (k : ∀ a, H1 a = none → H0 a = none) (h : FlOk P σ' z' H0 D fl) : FlOk P σ' z' H1 D fl := by
  cases fl with
  | nx => exact h
  | bk => exact h
  | ct => exact h
  | rt e => exact fun v r => h v (r.org (z1 := z') k)
theorem AccS.later {r : R Fl} (S0 : SR P PV σ z0) (x : EX σ z0 σ1 z1) (h : AccS P PV W σ z0 r D) : AccS P PV W σ1 z1 r D := by
  cases r with
  | ok fl ρ s => exact fun σ' F H m e S => (h σ' F H m (x.trans S0 e) S).org fun _ q => x.kn q
  | ex c ns vs ρ s => exact fun σ' F H m d e S q => h σ' F H m d (x.trans S0 e) S q
  | no => exact h
theorem AccU.later {r : R Unit} (S0 : SR P PV σ z0) (x : EX σ z0 σ1 z1) (h : AccU P PV W σ z0 r Q) : AccU P PV W σ1 z1 r Q := by
  cases r with
  | ok fl ρ s => exact fun σ' F H m e S => h σ' F H m (x.trans S0 e) S
  | ex c ns vs ρ s => exact fun σ' F H m d e S q => h σ' F H m d (x.trans S0 e) S q
  | no => exact h
end
section
variable (P : Par) (PV : List V) (W : WX)
def LS (f : M Fl) : TS := fun D σ H => ∃ z : Z, z.H = H ∧ SR P PV σ z ∧ AccS P PV W σ z (f z.ρ z.s) D
def LG (g : E → M Unit) : TG := fun v σ1 H Q => ∃ (σ0 : L2.St) (z0 z : Z) (e : E), z.H = H ∧ SR P PV σ0 z0 ∧ EX σ0 z0 σ1 z ∧ SR P PV σ1 z ∧ ER P σ1 z z0.H v e ∧ AccU P PV W σ0 z0 (g e z.ρ z.s) Q
/-- of frozen items -/
def LGs (g : List D → M Unit) : TGs := fun vs σ1 H Q => ∃ (σ0 : L2.St) (z0 z : Z) (ds : List D), z.H = H ∧ SR P PV σ0 z0 ∧ EX σ0 z0 σ1 z ∧ SR P PV σ1 z ∧ RepL P z.F z.m vs ds ∧ AccU P PV W σ0 z0 (g ds z.ρ z.s) Q
end
theorem PSi {X : Cx} {e : Stmt} {t t' : TS} (h : PS X e t) (k : ∀ D σ H, t' D σ H → t D σ H) : PS X e t' := ⟨fun pins s σ H D I w => h.run pins s σ H D I (k D σ H w)⟩
theorem PSsi {X : Cx} {e : List Stmt} {t t' : TS} (h : PSs X e t) (k : ∀ D σ H, t' D σ H → t D σ H) : PSs X e t' := ⟨fun pins s σ H D I w => h.run pins s σ H D I (k D σ H w)⟩
theorem PGi {X : Cx} {e : Expr} {t t' : TG} (h : PG X e t) (k : ∀ v σ H Q, t' v σ H Q → t v σ H Q) : PG X e t' := ⟨fun pins s σ H v u Q I r w => h.run pins s σ H v u Q I r (k v σ H Q w)⟩
theorem PGsi {X : Cx} {e : List Expr} {t t' : TGs} (h : PGs X e t) (k : ∀ v σ H Q, t' v σ H Q → t v σ H Q) : PGs X e t' := ⟨fun pins s σ H v u Q I r w => h.run pins s σ H v u Q I r (k v σ H Q w)⟩

/-! binds into statements; the origin is kept -/
section
variable {P : Par} {PV : List V} {W : WX} {σ : L2.St} {H : Hp} {D : Ends}
theorem les_bind {f : M E} {k : E → M Fl} {Q1 : VK} (h : ∃ z : Z, z.H = H ∧ SR P PV σ z ∧ AccS P PV W σ z (M.bind f k z.ρ z.s) D)
    (hk : ∀ z0 z1 v e, z0.H = H → SR P PV σ z0 → EX σ z0 σ z1 → SR P PV σ z1 → ER P σ z1 z0.H v e → AccS P PV W σ z0 (k e z1.ρ z1.s) D → Q1 v z1.H) : LE P PV W f σ H Q1 := by
  obtain ⟨z, rfl, S, A⟩ := h
  refine ⟨z, rfl, S, ?_⟩
  unfold M.bind at A
  cases hf : f z.ρ z.s with
  | no => rw [hf] at A; exact A.elim
  | ex c ns vs ρ s => rw [hf] at A; exact fun F H m d e S q => A σ F H m d e S q
  | ok e ρ s =>
    rw [hf] at A
    intro v F H1 m x S1 r
    exact hk z ⟨F, H1, m, ρ, s⟩ v e rfl S x S1 r A
theorem lds_bind {f : M DL.D} {k : DL.D → M Fl} {Q1 : VK} (h : ∃ z : Z, z.H = H ∧ SR P PV σ z ∧ AccS P PV W σ z (M.bind f k z.ρ z.s) D)
    (hk : ∀ z0 z1 v e, z0.H = H → SR P PV σ z0 → EX σ z0 σ z1 → SR P PV σ z1 → Rep P z1.F z1.m v e → AccS P PV W σ z0 (k e z1.ρ z1.s) D → Q1 v z1.H) : LD P PV W f σ H Q1 := by
  obtain ⟨z, rfl, S, A⟩ := h
  refine ⟨z, rfl, S, ?_⟩
  unfold M.bind at A
  cases hf : f z.ρ z.s with
  | no => rw [hf] at A; exact A.elim
  | ex c ns vs ρ s => rw [hf] at A; exact fun F H m d e S q => A σ F H m d e S q
  | ok e ρ s =>
    rw [hf] at A
    intro v F H1 m x S1 r
    exact hk z ⟨F, H1, m, ρ, s⟩ v e rfl S x S1 r A
theorem lss_bind {f : M (List E)} {k : List E → M Fl} {Q1 : List V → Hp → Prop} (h : ∃ z : Z, z.H = H ∧ SR P PV σ z ∧ AccS P PV W σ z (M.bind f k z.ρ z.s) D)
    (hk : ∀ z0 z1 v e, z0.H = H → SR P PV σ z0 → EX σ z0 σ z1 → SR P PV σ z1 → ERs P σ z1 z0.H v e → AccS P PV W σ z0 (k e z1.ρ z1.s) D → Q1 v z1.H) : LEs P PV W f σ H Q1 := by
  obtain ⟨z, rfl, S, A⟩ := h
  refine ⟨z, rfl, S, ?_⟩
  unfold M.bind at A
  cases hf : f z.ρ z.s with
  | no => rw [hf] at A; exact A.elim
  | ex c ns vs ρ s => rw [hf] at A; exact fun F H m d e S q => A σ F H m d e S q
  | ok e ρ s =>
    rw [hf] at A
    intro v F H1 m x S1 r
    exact hk z ⟨F, H1, m, ρ, s⟩ v e rfl S x S1 r A
theorem lts_bind {f : M Bool} {k : Bool → M Fl} {Q1 : Bool → Hp → Prop} (h : ∃ z : Z, z.H = H ∧ SR P PV σ z ∧ AccS P PV W σ z (M.bind f k z.ρ z.s) D)
    (hk : ∀ z1 b, SR P PV σ z1 → AccS P PV W σ z1 (k b z1.ρ z1.s) D → Q1 b z1.H) : LT P PV W f σ H Q1 := by
  obtain ⟨z, rfl, S, A⟩ := h
  refine ⟨z, rfl, S, ?_⟩
  unfold M.bind at A
  cases hf : f z.ρ z.s with
  | no => rw [hf] at A; exact A.elim
  | ex c ns vs ρ s => rw [hf] at A; exact fun F H m d e S q => A σ F H m d e S q
  | ok e ρ s =>
    rw [hf] at A
    intro v F H1 m x S1 r
    have r' : v = e := r
    subst r'
    exact hk ⟨F, H1, m, ρ, s⟩ v S1 (A.later S x)
theorem les_bind1 {f : M E} {k : E → M Fl} {Q1 : VK} (h : ∃ z : Z, z.H = H ∧ SR P PV σ z ∧ AccS P PV W σ z (M.bind f k z.ρ z.s) D)
    (hk : ∀ z1 v e, SR P PV σ z1 → ER P σ z1 H v e → AccS P PV W σ z1 (k e z1.ρ z1.s) D → Q1 v z1.H) : LE P PV W f σ H Q1 :=
  les_bind h fun z0 z1 v e h0 S0 x S1 r A => hk z1 v e S1 (by rw [← h0]; exact r) (A.later S0 x)
end

/-! blocks, small statements -/
def sSeq (f g : M Fl) : M Fl := fun ρ s => match f ρ s with
  | .ok .nx ρ' s' => g ρ' s'
  | r => r
def sNx : M Fl := M.pure .nx
def sDrop (f : M E) : M Fl := M.bind f fun _ => sNx
def sRet (f : M E) : M Fl := M.bind f fun e => M.pure (.rt e)
def sRetN : M Fl := M.pure (.rt (.v .non))
def sIf (t : M Bool) (f g : M Fl) : M Fl := M.bind t fun b => if b = true then f else g
section
variable {X : Cx} {P : Par} {PV : List V} {W : WX} {st : Stmt} {rest a b : List Stmt} {f g : M Fl} {fe : M E} {ft : M Bool} {e c : Expr} {pos : Pos}
theorem ds_nil : PSs X [] (LS P PV W sNx) := PSsi pss_nil fun D σ H ⟨z, e, S, A⟩ => by subst e; exact A σ z.F z.H z.m EX.refl S
theorem ds_cons (h1 : PS X st (LS P PV W f)) (h2 : PSs X rest (LS P PV W g)) : PSs X (st :: rest) (LS P PV W (sSeq f g)) :=
  PSsi (pss_cons h1 h2) fun D σ H ⟨z, e, S, A⟩ => by
    refine ⟨z, e, S, ?_⟩
    unfold sSeq at A
    cases hf : f z.ρ z.s with
    | no => rw [hf] at A; exact A
    | ex c ns vs ρ s => rw [hf] at A; exact A
    | ok fl ρ s =>
      rw [hf] at A
      intro σ' F H' m x S'
      cases fl with
      | nx => exact ⟨⟨F, H', m, ρ, s⟩, rfl, S', AccS.later S x A⟩
      | rt e => exact A σ' F H' m x S'
      | bk => exact A σ' F H' m x S'
      | ct => exact A σ' F H' m x S'
theorem ds_one (h1 : PS X st (LS P PV W f)) : PSs X [st] (LS P PV W f) := pss_one h1
theorem ds_pass : PS X (.Pass pos) (LS P PV W sNx) := PSi ps_pass fun D σ H ⟨z, e, S, A⟩ => by subst e; exact A σ z.F z.H z.m EX.refl S
theorem ds_break : PS X (.Break pos) (LS P PV W (M.pure .bk)) := PSi ps_break fun D σ H ⟨z, e, S, A⟩ => by subst e; exact A σ z.F z.H z.m EX.refl S
theorem ds_cont : PS X (.Continue pos) (LS P PV W (M.pure .ct)) := PSi ps_continue fun D σ H ⟨z, e, S, A⟩ => by subst e; exact A σ z.F z.H z.m EX.refl S
theorem ds_expr (he : PE X e (LE P PV W fe)) (hs : swapsWith e none pos.line X.env = pure false := by rfl) : PS X (.Expr e pos) (LS P PV W (sDrop fe)) :=
  PSi (ps_expr he hs) fun D σ H h => les_bind1 h fun z1 v e S r A => A σ z1.F z1.H z1.m EX.refl S
theorem ds_if (hc : PT X c (LT P PV W ft)) (ha : PSs X a (LS P PV W f)) (hb : PSs X b (LS P PV W g)) : PS X (.If c a b pos) (LS P PV W (sIf ft f g)) :=
  PSi (ps_if hc ha hb) fun D σ H h => lts_bind h fun z1 k S A => by
    cases k with
    | true => rw [if_pos rfl]; rw [if_pos rfl] at A; exact ⟨z1, rfl, S, A⟩
    | false => rw [if_neg Bool.false_ne_true]; rw [if_neg Bool.false_ne_true] at A; exact ⟨z1, rfl, S, A⟩
end
/-- a slot is forgotten -/
theorem SR.drop {P : Par} {PV : List V} {σ : L2.St} {z : Z} (S : SR P PV σ z) (i : Nat) : SR P PV σ { z with ρ := z.ρ.set i .no } ∧ EX σ z σ { z with ρ := z.ρ.set i .no } ∧ ∀ a, Mu σ { z with ρ := z.ρ.set i .no } a → Mu σ z a := by
  have back : ∀ (j : Nat) x, (z.ρ.set i Sl.no)[j]? = some x → x = .no ∨ z.ρ[j]? = some x := fun j x h => by
    by_cases q : j = i
    · subst q
      by_cases hl : j < z.ρ.length
      · rw [List.getElem?_set_self hl] at h; exact .inl (Option.some.inj h).symm
      · rw [List.getElem?_eq_none (by simpa using hl)] at h; cases h
    · rw [List.getElem?_set_ne (Ne.symm q)] at h; exact .inr h
  have own : ∀ j b, OwnAt σ { z with ρ := z.ρ.set i .no } j b → OwnAt σ z j b := fun j b ⟨⟨c, hc⟩, e⟩ => by
    rcases hc with hc | hc
    · rcases back j _ hc with q | q
      · cases q
      · exact ⟨⟨c, .inl q⟩, e⟩
    · rcases back j _ hc with q | q
      · cases q
      · exact ⟨⟨c, .inr q⟩, e⟩
  have mu : ∀ a, Mu σ { z with ρ := z.ρ.set i .no } a → Mu σ z a := fun a h => h.elim .inl fun ⟨j, h⟩ => .inr ⟨j, own j a h⟩
  refine ⟨⟨S.fz, S.len, S.nd, S.cl, fun j x h => ?_, fun j k b h1 h2 => S.sd j k b (own j b h1) (own k b h2), by show (z.ρ.set i .no).length ≤ _; rw [List.length_set]; exact S.ln⟩,
    ⟨fun _ _ h => h, ⟨[], (List.append_nil _).symm⟩, fun _ _ h _ _ => h, fun _ _ h => .inl h, fun _ o h => ⟨o, h⟩, fun a h => .inl (mu a h)⟩, mu⟩
  rcases back j x h with rfl | q
  · trivial
  · exact S.sl j x q
section
variable {X : Cx} {P : Par} {PV : List V} {W : WX} {fe : M E} {e : Expr} {pos : Pos}
theorem ds_ret (he : PE X e (LE P PV W fe)) : PS X (.Return (some e) pos) (LS P PV W (sRet fe)) :=
  PSi (ps_ret he) fun D σ H h => les_bind h fun z0 z1 v e h0 S0 x S1 r A => A σ z1.F z1.H z1.m x S1 v r
theorem ds_retN : PS X (.Return none pos) (LS P PV W sRetN) := PSi ps_retN fun D σ H ⟨z, e, S, A⟩ => by subst e; exact A σ z.F z.H z.m EX.refl S .non Rep.non
end

/-! ### targets -/
/-- into the slot i -/
def putV (i : Nat) (e : E) : M Unit := fun ρ s => match e with
  | .v d => .ok () (ρ.set i (.val d)) s
  | .f c => .ok () (ρ.set i (.own c)) s
  | .l _ => .no
def put (i : Nat) (e : E) : M Unit := fun ρ s => match ρ[i]? with
  | none => .no
  | some (.io _) => .no
  | some _ => putV i e ρ s
theorem SR.putV {P : Par} {PV : List V} {σ : L2.St} {z : Z} {i : Nat} {v : V} {d : D} (S : SR P PV σ z) (hi : i < z.ρ.length) (r : Rep P z.F z.m v d) :
    SR P PV (σ.set i (some v)) { z with ρ := z.ρ.set i (.val d) } ∧ EX σ z (σ.set i (some v)) { z with ρ := z.ρ.set i (.val d) } := by
  have hi' : i < σ.length := Nat.lt_of_lt_of_le hi S.ln
  have own : ∀ j b, OwnAt (σ.set i (some v)) { z with ρ := z.ρ.set i (.val d) } j b → OwnAt σ z j b := fun j b h => by
    have h' : OwnAt (σ.set i (some v)) { z with ρ := z.ρ.set i (.val d) } j b := h
    obtain ⟨⟨c, hc⟩, e⟩ := h
    by_cases q : j = i
    · subst q
      rcases hc with hc | hc
      · have hc : (z.ρ.set j (.val d))[j]? = _ := hc
        rw [List.getElem?_set_self hi] at hc; cases hc
      · have hc : (z.ρ.set j (.val d))[j]? = _ := hc
        rw [List.getElem?_set_self hi] at hc; cases hc
    · rw [List.getElem?_set_ne (Ne.symm q)] at e
      rcases hc with hc | hc
      · have hc : (z.ρ.set i (.val d))[j]? = _ := hc
        rw [List.getElem?_set_ne (Ne.symm q)] at hc; exact ⟨⟨c, .inl hc⟩, e⟩
      · have hc : (z.ρ.set i (.val d))[j]? = _ := hc
        rw [List.getElem?_set_ne (Ne.symm q)] at hc; exact ⟨⟨c, .inr hc⟩, e⟩
  refine ⟨⟨S.fz, S.len, S.nd, S.cl, fun j x h => ?_, fun j k b h1 h2 => S.sd j k b (own j b h1) (own k b h2), by show (z.ρ.set i (.val d)).length ≤ (σ.set i (some v)).length; rw [List.length_set, List.length_set]; exact S.ln⟩,
    ⟨fun _ _ h => h, ⟨[], (List.append_nil _).symm⟩, fun _ _ h _ _ => h, fun _ _ h => .inl h, fun _ o h => ⟨o, h⟩, fun a h => .inl (h.elim .inl fun ⟨j, h⟩ => .inr ⟨j, own j a h⟩)⟩⟩
  have h : (z.ρ.set i (.val d))[j]? = some x := h
  by_cases q : j = i
  · subst q
    rw [List.getElem?_set_self hi] at h; cases h
    exact ⟨v, List.getElem?_set_self hi', r⟩
  · rw [List.getElem?_set_ne (Ne.symm q)] at h
    have := S.sl j x h
    rw [List.getElem?_set_ne (Ne.symm q)]
    exact this
theorem SR.putF {P : Par} {PV : List V} {σ : L2.St} {z : Z} {i : Nat} {a : Addr} {c : Cl} (S : SR P PV σ z) (hi : i < z.ρ.length) (hf : z.F a = none) (hm : ¬ Mu σ z a) (hc : CR P z a c) :
    SR P PV (σ.set i (some (.ref a))) { z with ρ := z.ρ.set i (.own c) } ∧ (∀ b, Mu (σ.set i (some (.ref a))) { z with ρ := z.ρ.set i (.own c) } b → b = a ∨ Mu σ z b) := by
  have hi' : i < σ.length := Nat.lt_of_lt_of_le hi S.ln
  have own : ∀ j b, OwnAt (σ.set i (some (.ref a))) { z with ρ := z.ρ.set i (.own c) } j b → (j = i ∧ b = a) ∨ (j ≠ i ∧ OwnAt σ z j b) := fun j b ⟨⟨c', hc⟩, e⟩ => by
    by_cases q : j = i
    · subst q
      rw [List.getElem?_set_self hi'] at e
      cases e
      exact .inl ⟨rfl, rfl⟩
    · rw [List.getElem?_set_ne (Ne.symm q)] at e
      rcases hc with hc | hc
      · have hc : (z.ρ.set i (.own c))[j]? = _ := hc
        rw [List.getElem?_set_ne (Ne.symm q)] at hc; exact .inr ⟨q, ⟨c', .inl hc⟩, e⟩
      · have hc : (z.ρ.set i (.own c))[j]? = _ := hc
        rw [List.getElem?_set_ne (Ne.symm q)] at hc; exact .inr ⟨q, ⟨c', .inr hc⟩, e⟩
  refine ⟨⟨S.fz, S.len, S.nd, S.cl, fun j x h => ?_, fun j k b h1 h2 => ?_, by show (z.ρ.set i (.own c)).length ≤ (σ.set i _).length; rw [List.length_set, List.length_set]; exact S.ln⟩, fun b h => ?_⟩
  · have h : (z.ρ.set i (.own c))[j]? = some x := h
    by_cases q : j = i
    · subst q
      rw [List.getElem?_set_self hi] at h; cases h
      exact ⟨a, List.getElem?_set_self hi', hf, fun q => hm (.inl q), hc⟩
    · rw [List.getElem?_set_ne (Ne.symm q)] at h
      have := S.sl j x h
      rw [List.getElem?_set_ne (Ne.symm q)]
      exact this
  · rcases own j b h1 with ⟨e1, e2⟩ | ⟨e1, e2⟩
    · subst e2
      rcases own k b h2 with ⟨e3, e4⟩ | ⟨e3, e4⟩
      · rw [e1, e3]
      · exact absurd (.inr ⟨k, e4⟩) hm
    · rcases own k b h2 with ⟨e3, e4⟩ | ⟨e3, e4⟩
      · subst e4; exact absurd (.inr ⟨j, e2⟩) hm
      · exact S.sd j k b e2 e4
  · rcases h with h | ⟨j, h⟩
    · exact .inr (.inl h)
    · rcases own j b h with ⟨_, e⟩ | ⟨_, e⟩
      · exact .inl e
      · exact .inr (.inr ⟨j, e⟩)
section
variable {P : Par} {PV : List V} {W : WX} {σ0 σ1 : L2.St} {z0 z : Z} {Q : L2.St → Hp → Prop}
/-- the step of a store -/
theorem put_ok {i : Nat} {v : V} {e : E} {ρ' : List Sl} {s' : List Cl} (S0 : SR P PV σ0 z0) (x : EX σ0 z0 σ1 z) (S : SR P PV σ1 z) (r : ER P σ1 z z0.H v e) (hp : put i e z.ρ z.s = .ok () ρ' s') :
    s' = z.s ∧ SR P PV (σ1.set i (some v)) { z with ρ := ρ' } ∧ EX σ0 z0 (σ1.set i (some v)) { z with ρ := ρ' } := by
  unfold put at hp
  cases hρ : z.ρ[i]? with
  | none => rw [hρ] at hp; cases hp
  | some y =>
    have hi : i < z.ρ.length := (List.getElem?_eq_some_iff.mp hρ).1
    have main : putV i e z.ρ z.s = R.ok () ρ' s' → s' = z.s ∧ SR P PV (σ1.set i (some v)) { z with ρ := ρ' } ∧ EX σ0 z0 (σ1.set i (some v)) { z with ρ := ρ' } := fun h => by
      cases e with
      | v d =>
        cases h
        obtain ⟨h1, h2⟩ := S.putV hi r
        exact ⟨rfl, h1, x.trans S0 h2⟩
      | l j => cases h
      | f c =>
        cases h
        obtain ⟨a, rfl, hf, nm, hn, hc⟩ := r
        obtain ⟨h1, h2⟩ := S.putF hi hf nm hc
        exact ⟨rfl, h1, x.fs, x.mp, x.oth, x.nw, x.kp, fun b hb => by
          rcases h2 b hb with rfl | q
          · exact .inr hn
          · exact x.mu b q⟩
    rw [hρ] at hp
    cases y with
    | no => exact main hp
    | val d => exact main hp
    | own c => exact main hp
    | io c => cases hp
theorem put_no {i : Nat} {e : E} {c ns vs ρ' s'} (h : put i e z.ρ z.s = .ex c ns vs ρ' s') : False := by
  unfold put at h
  cases hρ : z.ρ[i]? with
  | none => rw [hρ] at h; cases h
  | some y =>
    rw [hρ] at h
    cases y <;> cases e <;> cases h
theorem lg_put {X : Cx} {tg : Expr} {i : Nat} (h : PG X tg (gName i)) : PG X tg (LG P PV W (put i)) := PGi h fun v σ H Q ⟨σ0, z0, z, e, hz, S0, x, S, r, A⟩ => by
  subst hz
  cases hp : put i e z.ρ z.s with
  | no => rw [hp] at A; exact A.elim
  | ex c ns vs ρ s => exact (put_no hp).elim
  | ok u ρ s =>
    rw [hp] at A
    obtain ⟨rfl, h1, h2⟩ := put_ok S0 x S r hp
    exact A _ z.F z.H z.m h2 h1
end
/-- items to targets, one after another -/
def unNil : List D → M Unit
  | [] => M.pure ()
  | _ => M.no
def unCons (g : E → M Unit) (gs : List D → M Unit) : List D → M Unit
  | [] => M.no
  | d :: ds => M.bind (g (.v d)) fun _ => gs ds
/-- a, b, .. = a tuple or a list of that many -/
def unTup (n : Nat) (gs : List D → M Unit) (e : E) : M Unit := fun ρ s => match e with
  | .v (.tup ds) => if ds.length = n then gs ds ρ s else .no
  | e => match con e ρ s with
    | some (.lst ds) => if ds.length = n then gs ds ρ s else .no
    | _ => .no
section
variable {X : Cx} {P : Par} {PV : List V} {W : WX} {tg : Expr} {tgs : List Expr} {g : E → M Unit} {gs : List D → M Unit}
theorem lgs_nil : PGs X [] (LGs P PV W unNil) := PGsi pgs_nil fun vs σ H Q ⟨σ0, z0, z, ds, hz, S0, x, S, r, A⟩ => by
  subst hz
  cases r with
  | nil => exact ⟨rfl, A σ z.F z.H z.m x S⟩
  | cons a b => exact A.elim
theorem lgs_cons (h1 : PG X tg (LG P PV W g)) (h2 : PGs X tgs (LGs P PV W gs)) (hs : (assignEach (tg :: tgs) X.env).map (·.2) = assign tg X.env :: (assignEach tgs X.env).map (·.2) := by rfl) : PGs X (tg :: tgs) (LGs P PV W (unCons g gs)) :=
  PGsi (pgs_cons h1 h2 hs) fun vs σ H Q ⟨σ0, z0, z, ds, hz, S0, x, S, r, A⟩ => by
    subst hz
    cases r with
    | nil => exact A.elim
    | @cons v d vs ds rv rl =>
      refine ⟨v, vs, rfl, σ, z, z, .v d, rfl, S, EX.refl, S, rv, ?_⟩
      have A := A.later S0 x
      have A' : AccU P PV W σ z (M.bind (g (.v d)) (fun _ => gs ds) z.ρ z.s) Q := A
      unfold M.bind at A'
      cases hg : g (.v d) z.ρ z.s with
      | no => rw [hg] at A'; exact A'
      | ex c ns vs ρ s => rw [hg] at A'; exact A'
      | ok u ρ s =>
        rw [hg] at A'
        intro σ' F H' m x' S'
        refine ⟨σ', ⟨F, H', m, ρ, s⟩, ⟨F, H', m, ρ, s⟩, ds, rfl, S', EX.refl, S', x'.repL rl, A'.later S x'⟩
end
end DL
set_option Elab.async false
set_option linter.all false
set_option maxRecDepth 100000
set_option maxHeartbeats 4000000
/-! DL8: unpacking, assignments, loops. -/
namespace DL
open PySem L2

/-- a, b = a tuple, or a list -/
theorem pg_seq {X : Cx} {es : List Expr} {k : Nat} {t : TGs} {n : Nat} {pos : Pos} (hc : X.calm = true) (h : PGs X es t) (hn : (assignEach es X.env).length = n := by rfl) (hst : (assignEach es X.env).findIdx? (·.1) = none := by rfl) :
    PG X (.Tuple es k pos) (fun v σ H Q => gTup X.K n t v σ H Q ∨ gLst X.K n t v σ H Q) :=
  ⟨fun pins s σ H v u Q I r w => w.elim ((pg_tup hc h hn hst).run pins s σ H v u Q I r) ((pg_lst hc h hn hst).run pins s σ H v u Q I r)⟩
section
variable {X : Cx} {G : Str → Addr} {PV : List V} {W : WX} {tg : Expr} {tgs es : List Expr} {g : E → M Unit} {gs : List D → M Unit} {f : M E} {e : Expr} {pos : Pos}
theorem lg_un {k n : Nat} (hc : X.calm = true) (h : PGs X es (LGs (pk X G) PV W gs)) (hn : (assignEach es X.env).length = n := by rfl) (hst : (assignEach es X.env).findIdx? (·.1) = none := by rfl) : PG X (.Tuple es k pos) (LG (pk X G) PV W (unTup n gs)) :=
  PGi (pg_seq hc h hn hst) fun v σ H Q ⟨σ0, z0, z, e, hz, S0, x, S, r, A⟩ => by
    subst hz
    have other : AccU (pk X G) PV W σ0 z0 (match con e z.ρ z.s with | some (.lst ds) => if ds.length = n then gs ds z.ρ z.s else .no | _ => .no) Q → gLst X.K n (LGs (pk X G) PV W gs) v σ z.H Q := fun A => by
      split at A
      · rename_i ds hc
        split at A
        · rename_i hl
          obtain ⟨a, rfl, vs, h1, l⟩ := con_ok S r hc
          exact ⟨a, vs, rfl, SqL.of h1, by rw [l.length]; exact hl, σ0, z0, z, ds, rfl, S0, x, S, l, A⟩
        · exact A.elim
      · exact A.elim
    cases e with
    | l i => exact .inr (other A)
    | f c => exact .inr (other A)
    | v d =>
      cases d with
      | tup ds =>
        have A' : AccU (pk X G) PV W σ0 z0 (if ds.length = n then gs ds z.ρ z.s else .no) Q := A
        split at A'
        · rename_i hl
          obtain ⟨a, vs, rfl, h1, l, _⟩ := r.tup S
          exact .inl ⟨a, vs, rfl, h1, by rw [l.length]; exact hl, σ0, z0, z, ds, rfl, S0, x, S, l, A'⟩
        · exact A'.elim
      | _ => exact .inr (other A)
/-- target = value -/
def sAsg (f : M E) (g : E → M Unit) : M Fl := M.bind f fun e => M.bind (g e) fun _ => sNx
theorem accU_of {P : Par} {σ : L2.St} {z0 : Z} {r : M Unit} {ρ : List Sl} {s : List Cl} {D : Ends} (A : AccS P PV W σ z0 (M.bind r (fun _ => sNx) ρ s) D) : AccU P PV W σ z0 (r ρ s) D.nx := by
  unfold M.bind at A
  cases hr : r ρ s with
  | no => rw [hr] at A; exact A.elim
  | ex c ns vs ρ s => rw [hr] at A; exact A
  | ok u ρ s => rw [hr] at A; exact A
theorem ds_asg {P : Par} (he : PE X e (LE P PV W f)) (hg : PG X tg (LG P PV W g)) (hs : swapsWithSole [tg] e pos.line X.env = pure false := by rfl) (hw : swappedStores [tg] e X.env = pure none := by rfl)
    (h1 : (assignEach [tg] X.env).map (·.2) = [assign tg X.env] := by rfl) : PS X (.Assign [tg] e pos) (LS P PV W (sAsg f g)) :=
  PSi (ps_asg he hg hs hw h1) fun D σ H h => les_bind h fun z0 z1 v e h0 S0 x S1 r A => ⟨σ, z0, z1, e, rfl, S0, x, S1, r, accU_of A⟩
theorem ds_set {P : Par} {i : Nat} {x : Str} {pos' : Pos} (hN : X.N.Nodup) (hi : X.N[i]? = some x) (hx : Loc X.env.scope x) (he : PE X e (LE P PV W f)) (hs : swapsWith e (some (.Name x pos')) pos.line X.env = pure false := by rfl) (hf : X.fn x = true ∨ X.env.scope.names.lookup x = some .local := by first | exact .inl rfl | exact .inr rfl | assumption) :
    PS X (.Assign [.Name x pos'] e pos) (LS P PV W (sAsg f (put i))) :=
  PSi (ps_set hN hi hx he hs hf) fun D σ H h => les_bind h fun z0 z v e h0 S0 x S r A => by
    have A := accU_of A
    cases hp : put i e z.ρ z.s with
    | no => rw [hp] at A; exact A.elim
    | ex c ns vs ρ s => exact (put_no hp).elim
    | ok u ρ s =>
      rw [hp] at A
      obtain ⟨rfl, h1, h2⟩ := put_ok S0 x S r hp
      exact A _ z.F z.H z.m h2 h1
/-- a frozen value -/
def eFz (f : M E) : M E := M.bind (M.bind f frz) fun d => M.pure (.v d)
theorem de_fz (he : PE X e (LE (pk X G) PV W f)) : PE X e (LE (pk X G) PV W (eFz f)) :=
  PEi (dd he) fun σ H Q h => ld_bind (rel := fun H => erel (pk X G) σ H) (fun k q => erel_org k q) h fun z1 v d S r A => acc_val S r A
end

/-! ### loops -/
/-- a turn, then more -/
def sLoop (b k : M Fl) : M Fl := fun ρ s => match b ρ s with
  | .ok .nx ρ s => k ρ s
  | .ok .ct ρ s => k ρ s
  | .ok .bk ρ s => .ok .nx ρ s
  | r => r
def forD (g : E → M Unit) (b : M Fl) : List D → M Fl
  | [] => sNx
  | d :: ds => M.bind (g (.v d)) fun _ => sLoop b (forD g b ds)
def whileD (t : M Bool) (b : M Fl) : Nat → M Fl
  | 0 => M.no
  | n + 1 => M.bind t fun c => if c = true then sLoop b (whileD t b n) else sNx
/-- J walks xs -/
def WalkD (P : Par) (PV : List V) (J : It) (xs : List D) (F0 : Hp) (m0 : List Addr) : Prop := ∀ (i : Nat) (σ' : L2.St) (z : Z), SR P PV σ' z → (∀ a o, F0 a = some o → z.F a = some o) → (∃ r, z.m = m0 ++ r) →
  (i < xs.length → J.go i z.H ∧ ∀ x H', J.yld i z.H x H' → ∃ F', EX σ' z σ' ⟨F', H', z.m, z.ρ, z.s⟩ ∧ SR P PV σ' ⟨F', H', z.m, z.ρ, z.s⟩ ∧ ∃ d, xs[i]? = some d ∧ Rep P F' z.m x d) ∧ (i = xs.length → J.stop i z.H)
/-- what is walked -/
def LI (P : Par) (PV : List V) (W : WX) (f : M (List D)) : TI := fun σ H Rr => ∃ z : Z, z.H = H ∧ SR P PV σ z ∧ Acc P PV W σ z (fun z1 (J : It) xs => WalkD P PV J xs z1.F z1.m) (f z.ρ z.s) Rr
theorem PIi {X : Cx} {tg e : Expr} {t t' : TI} (h : PI X tg e t) (k : ∀ σ H Q, t' σ H Q → t σ H Q) : PI X tg e t' := ⟨fun pins s σ H Q I w => h.run pins s σ H Q I (k σ H Q w)⟩
def sFor (fi : M (List D)) (g : E → M Unit) (b : M Fl) : M Fl := M.bind fi fun xs => forD g b xs
def sWhile (n : Nat) (t : M Bool) (b : M Fl) : M Fl := whileD t b n
section
variable {P : Par} {PV : List V} {W : WX} {σ : L2.St} {z0 : Z} {D : Ends}
theorem loop_acc {b k : M Fl} {ρ : List Sl} {s : List Cl} (S0 : SR P PV σ z0) (A : AccS P PV W σ z0 (sLoop b k ρ s) D) {N : L2.St → Hp → Prop} (hN : ∀ σ' z', EX σ z0 σ' z' → SR P PV σ' z' → AccS P PV W σ' z' (k z'.ρ z'.s) D → N σ' z'.H) :
    AccS P PV W σ z0 (b ρ s) { D with nx := N, ct := N, bk := D.nx } := by
  unfold sLoop at A
  cases hb : b ρ s with
  | no => rw [hb] at A; exact A
  | ex c ns vs ρ s => rw [hb] at A; exact A
  | ok fl ρ1 s1 =>
    rw [hb] at A
    intro σ' F H m x S
    cases fl with
    | nx => exact hN σ' ⟨F, H, m, ρ1, s1⟩ x S (AccS.later S0 x A)
    | ct => exact hN σ' ⟨F, H, m, ρ1, s1⟩ x S (AccS.later S0 x A)
    | bk => exact A σ' F H m x S
    | rt e => exact A σ' F H m x S
end
section
variable {X : Cx} {P : Par} {PV : List V} {W : WX} {c tg iter : Expr} {body : List Stmt} {t : M Bool} {b : M Fl} {fi : M (List D)} {g : E → M Unit} {pos : Pos}
theorem ds_while (n : Nat) (hp : PassesOwn (model X.prog X.w) X.A X.env X.xe) (hc : PT X c (LT P PV W t)) (hb : PSs X body (LS P PV W b)) : PS X (.While c body [] pos) (LS P PV W (sWhile n t b)) :=
  PSi (ps_while hp hc hb) fun D σ H ⟨z, hz, S, A⟩ => by
    refine ⟨fun m σ H => ∃ z : Z, z.H = H ∧ SR P PV σ z ∧ AccS P PV W σ z (whileD t b m z.ρ z.s) D, ⟨n, z, hz, S, A⟩, ?_⟩
    rintro m σ H ⟨z, rfl, S, A⟩
    cases m with
    | zero => exact A.elim
    | succ m =>
      refine lts_bind (D := D) ⟨z, rfl, S, A⟩ fun z1 k S1 A1 => ?_
      cases k with
      | false => rw [if_neg Bool.false_ne_true]; rw [if_neg Bool.false_ne_true] at A1; exact A1 σ z1.F z1.H z1.m EX.refl S1
      | true =>
        rw [if_pos rfl]
        rw [if_pos rfl] at A1
        refine ⟨fun σ' H' => ∃ z : Z, z.H = H' ∧ SR P PV σ' z ∧ AccS P PV W σ' z (whileD t b m z.ρ z.s) D, fun σ' H' h => ⟨m, Nat.lt_succ_self _, h⟩, z1, rfl, S1, ?_⟩
        exact loop_acc S1 A1 fun σ' z' x S' A' => ⟨z', rfl, S', A'⟩
theorem li_bind {σ : L2.St} {H : Hp} {D : Ends} {k : List DL.D → M Fl} {Q1 : It → Hp → Prop} (h : ∃ z : Z, z.H = H ∧ SR P PV σ z ∧ AccS P PV W σ z (M.bind fi k z.ρ z.s) D)
    (hk : ∀ z1 J xs, SR P PV σ z1 → WalkD P PV J xs z1.F z1.m → AccS P PV W σ z1 (k xs z1.ρ z1.s) D → Q1 J z1.H) : LI P PV W fi σ H Q1 := by
  obtain ⟨z, rfl, S, A⟩ := h
  refine ⟨z, rfl, S, ?_⟩
  unfold M.bind at A
  cases hf : fi z.ρ z.s with
  | no => rw [hf] at A; exact A.elim
  | ex c ns vs ρ s => rw [hf] at A; exact fun F H m d e S q => A σ F H m d e S q
  | ok e ρ s =>
    rw [hf] at A
    intro v F H1 m x S1 r
    exact hk ⟨F, H1, m, ρ, s⟩ v e S1 r (AccS.later S x A)
theorem ds_for (hp : PassesOwn (model X.prog X.w) X.A X.env X.xe) (hc : X.calm = true) (hi : PI X tg iter (LI P PV W fi)) (hg : PG X tg (LG P PV W g)) (hb : PSs X body (LS P PV W b)) (hs : ∀ x, foldedSetIterable iter X.env x = pure x := by intro _; rfl) :
    PS X (.For tg iter body [] pos) (LS P PV W (sFor fi g b)) :=
  PSi (ps_for hp hc hi hg hb hs) fun D σ H h => li_bind h fun z1 J xs S1 w A => by
    refine ⟨fun i m σ H => i ≤ xs.length ∧ m = xs.length - i ∧ ∃ z : Z, z.H = H ∧ SR P PV σ z ∧ (∀ a o, z1.F a = some o → z.F a = some o) ∧ (∃ r, z.m = z1.m ++ r) ∧ AccS P PV W σ z (forD g b (xs.drop i) z.ρ z.s) D,
      ⟨xs.length, Nat.zero_le _, rfl, z1, rfl, S1, fun _ _ h => h, ⟨[], (List.append_nil _).symm⟩, A⟩, ?_⟩
    rintro i m σ H ⟨hi, rfl, z, rfl, S, kF, km, A⟩
    obtain ⟨w1, w2⟩ := w i σ z S kF km
    by_cases hl : i < xs.length
    · refine .inr ⟨(w1 hl).1, fun σ' H' => ∃ z : Z, z.H = H' ∧ SR P PV σ' z ∧ (∀ a o, z1.F a = some o → z.F a = some o) ∧ (∃ r, z.m = z1.m ++ r) ∧ AccS P PV W σ' z (forD g b (xs.drop (i + 1)) z.ρ z.s) D, fun σ' H' h => ⟨xs.length - (i + 1), by omega, by omega, rfl, h⟩, fun x H' hy => ?_⟩
      obtain ⟨F', x1, S', d, hd, r⟩ := (w1 hl).2 x H' hy
      have hdr : xs.drop i = d :: xs.drop (i + 1) := by
        rw [List.drop_eq_getElem_cons hl]
        have : xs[i] = d := by rw [List.getElem?_eq_getElem hl] at hd; exact Option.some.inj hd
        rw [this]
      rw [hdr] at A
      have A := A.later S x1
      refine ⟨σ, ⟨F', H', z.m, z.ρ, z.s⟩, ⟨F', H', z.m, z.ρ, z.s⟩, .v d, rfl, S', EX.refl, S', r, ?_⟩
      have A' : AccS P PV W σ ⟨F', H', z.m, z.ρ, z.s⟩ (M.bind (g (.v d)) (fun _ => sLoop b (forD g b (xs.drop (i + 1)))) z.ρ z.s) D := A
      unfold M.bind at A'
      show AccU P PV W σ ⟨F', H', z.m, z.ρ, z.s⟩ (g (.v d) z.ρ z.s) _
      cases hgx : g (.v d) z.ρ z.s with
      | no => rw [hgx] at A'; exact A'
      | ex c ns vs ρ s => rw [hgx] at A'; exact A'
      | ok u ρ s =>
        rw [hgx] at A'
        intro σ2 F2 H2 m2 x2 S2
        refine ⟨⟨F2, H2, m2, ρ, s⟩, rfl, S2, loop_acc S2 (AccS.later S' x2 A') fun σ3 z3 x3 S3 A3 => ⟨z3, rfl, S3, fun a o e => x3.fs a o (x2.fs a o (x1.fs a o (kF a o e))), ?_, A3⟩⟩
        obtain ⟨r0, e0⟩ := km
        obtain ⟨r1, e1⟩ := x1.mp
        obtain ⟨r2, e2⟩ := x2.mp
        obtain ⟨r3, e3⟩ := x3.mp
        have e1 : z.m = z.m ++ r1 := e1
        have e2 : m2 = z.m ++ r2 := e2
        have e3 : z3.m = m2 ++ r3 := e3
        exact ⟨r0 ++ r2 ++ r3, by rw [e3, e2, e0]; simp⟩
    · have hl : xs.length ≤ i := Nat.le_of_not_lt hl
      refine .inl ⟨w2 (Nat.le_antisymm hi hl), ?_⟩
      rw [List.drop_eq_nil_of_le hl] at A
      exact A σ z.F z.H z.m EX.refl S
end
end DL
set_option Elab.async false
set_option linter.all false
set_option maxRecDepth 100000
set_option maxHeartbeats 4000000
/-! DL9: what a def promises; calls. -/
namespace DL
open PySem L2

/-! ### the arguments as the callee's slots, and back -/
def slE (ρ : List Sl) : E → Option Sl
  | .v d => some (.val d)
  | .f c => some (.io c)
  | .l i => match ρ[i]? with
    | some (.own c) => some (.io c)
    | some (.io c) => some (.io c)
    | _ => none
/-- each thing is handed over once -/
def oneL : List E → Bool
  | [] => true
  | .l i :: es => (es.all fun e => match e with | .l j => decide (j ≠ i) | _ => true) && oneL es
  | _ :: es => oneL es
/-- the slots behind the call -/
def backS : List E → List Sl → List Sl → Option (List Sl)
  | .l i :: es, .io c :: as, ρ => match ρ[i]? with
    | some (.own _) => backS es as (ρ.set i (.own c))
    | some (.io _) => backS es as (ρ.set i (.io c))
    | _ => none
  | .l _ :: _, _, _ => none
  | _ :: es, _ :: as, ρ => backS es as ρ
  | _ :: _, [], _ => none
  | [], _, ρ => some ρ
/-- a def as the level below sees it: the arguments' slots to the end and the slots of the things -/
def wrapC (e : E) (as ρ' : List Sl) (s' : List Cl) : R (E × List Sl) := match e with
  | .l _ => .no
  | e => .ok (e, as) ρ' s'
def afterC (es : List E) (ρ : List Sl) : R E → R (E × List Sl)
  | .ok e as s' => match backS es as ρ with
    | some ρ' => wrapC e as ρ' s'
    | none => .no
  | .ex c ns vs as s' => match backS es as ρ with
    | some ρ' => .ex c ns vs ρ' s'
    | none => .no
  | .no => .no
def gCallR (f : M E) (es : List E) : M (E × List Sl) := fun ρ s => match mapO (slE ρ) es with
  | some args => if oneL es = true then afterC es ρ (f args s) else .no
  | none => .no
def gCall (n : Nat) (f : M E) (es : List E) : M E := fun ρ s => if es.length = n then M.bind (gCallR f es) (fun x => M.pure x.1) ρ s else .no
def spD (P : Par) (n : Nat) (f : M E) : Sp := fun vs H Q Ex => vs.length = n ∧ ∃ z : Z, z.H = H ∧ z.ρ.length = n ∧ SR P vs (vs.map some) z ∧ (∀ (j : Nat) c, z.ρ[j]? ≠ some (.own c)) ∧ Acc P vs (fun c d _ H => Ex c d H) (vs.map some) z (erel P (vs.map some) H) (f z.ρ z.s) Q

theorem mapO_get {α β : Type} {f : α → Option β} : ∀ {xs : List α} {ys : List β}, mapO f xs = some ys → xs.length = ys.length ∧ ∀ (j : Nat) y, ys[j]? = some y → ∃ x, xs[j]? = some x ∧ f x = some y
  | [], ys, h => by cases h; exact ⟨rfl, fun j y q => by simp at q⟩
  | x :: xs, ys, h => by
    unfold mapO at h
    cases h1 : f x with
    | none => rw [h1] at h; cases h
    | some y =>
      cases h2 : mapO f xs with
      | none => rw [h1, h2] at h; cases h
      | some ys' =>
        rw [h1, h2] at h
        cases h
        obtain ⟨hl, hg⟩ := mapO_get h2
        refine ⟨by simp [hl], fun j y' q => ?_⟩
        cases j with
        | zero => simp at q; subst q; exact ⟨x, rfl, h1⟩
        | succ j => exact hg j y' (by simpa using q)
theorem oneL_ne : ∀ {es : List E} {j k i : Nat}, oneL es = true → es[j]? = some (.l i) → es[k]? = some (.l i) → j = k
  | [], j, _, _, _, h, _ => by simp at h
  | e :: es, j, k, i, h, h1, h2 => by
    have rest : oneL es = true := by
      cases e with
      | l i' => unfold oneL at h; rw [Bool.and_eq_true] at h; exact h.2
      | v d => exact h
      | f c => exact h
    have away : ∀ (k : Nat), e = E.l i → es[k]? = some (E.l i) → False := fun k he hk => by
      subst he
      unfold oneL at h
      rw [Bool.and_eq_true, List.all_eq_true] at h
      have := h.1 _ (List.mem_of_getElem? hk)
      simp at this
    cases j with
    | zero =>
      cases k with
      | zero => rfl
      | succ k => simp at h1 h2; exact (away k h1 h2).elim
    | succ j =>
      cases k with
      | zero => simp at h1 h2; exact (away j h2 h1).elim
      | succ k => simp at h1 h2; rw [oneL_ne rest h1 h2]
/-- what stands in the slots behind the call -/
def BackOk (es : List E) (as ρ ρ' : List Sl) : Prop := ρ'.length = ρ.length ∧ ∀ (i : Nat) (x : Sl), ρ'[i]? = some x →
    (ρ[i]? = some x ∧ ∀ (j : Nat), es[j]? ≠ some (E.l i)) ∨ ∃ (j : Nat) (c c0 : Cl), es[j]? = some (E.l i) ∧ as[j]? = some (Sl.io c) ∧ ((x = .own c ∧ ρ[i]? = some (.own c0)) ∨ (x = .io c ∧ ρ[i]? = some (.io c0)))
theorem back_get : ∀ {es : List E} {as ρ ρ' : List Sl}, backS es as ρ = some ρ' → oneL es = true → BackOk es as ρ ρ'
  | [], as, ρ, ρ', h, _ => by
    unfold backS at h; cases h
    exact ⟨rfl, fun i x q => .inl ⟨q, fun j q => by simp at q⟩⟩
  | e :: es, as, ρ, ρ', h, ho => by
    have skip : ∀ {a : Sl} {as' : List Sl}, as = a :: as' → (∀ i, e ≠ E.l i) → backS es as' ρ = some ρ' → oneL es = true → BackOk (e :: es) as ρ ρ' := fun {a as'} ha he hh hho => by
      subst ha
      obtain ⟨hl, hg⟩ := back_get hh hho
      refine ⟨hl, fun i x q => ?_⟩
      rcases hg i x q with ⟨h1, h2⟩ | ⟨j, c, c0, h1, h2, h3⟩
      · exact .inl ⟨h1, fun j => by
          cases j with
          | zero => intro q; simp at q; exact he i q
          | succ j => simpa using h2 j⟩
      · exact .inr ⟨j + 1, c, c0, by simpa using h1, by simpa using h2, h3⟩
    cases e with
    | v d =>
      cases as with
      | nil => unfold backS at h; cases h
      | cons a as => exact skip rfl (fun i q => by cases q) h ho
    | f d =>
      cases as with
      | nil => unfold backS at h; cases h
      | cons a as => exact skip rfl (fun i q => by cases q) h ho
    | l k =>
      have ho' := ho
      unfold oneL at ho'
      rw [Bool.and_eq_true, List.all_eq_true] at ho'
      have notin : ∀ (j : Nat), es[j]? ≠ some (E.l k) := fun j q => by
        have := ho'.1 _ (List.mem_of_getElem? q)
        simp at this
      cases as with
      | nil => unfold backS at h; cases h
      | cons a as =>
        cases a with
        | no => unfold backS at h; cases h
        | val d => unfold backS at h; cases h
        | own c => unfold backS at h; cases h
        | io c =>
          have h' : (match ρ[k]? with | some (.own _) => backS es as (ρ.set k (.own c)) | some (.io _) => backS es as (ρ.set k (.io c)) | _ => none) = some ρ' := h
          have fin : ∀ (y : Sl) (c0 : Cl), (y = .own c ∧ ρ[k]? = some (.own c0)) ∨ (y = .io c ∧ ρ[k]? = some (.io c0)) → backS es as (ρ.set k y) = some ρ' → BackOk (E.l k :: es) (Sl.io c :: as) ρ ρ' := fun y c0 hy h => by
            obtain ⟨hl, hg⟩ := back_get h ho'.2
            refine ⟨by rw [hl, List.length_set], fun i x q => ?_⟩
            rcases hg i x q with ⟨h1, h2⟩ | ⟨j, c', c1, h1, h2, h3⟩
            · by_cases e : i = k
              · subst e
                have hlt : i < ρ.length := by
                  rcases hy with ⟨_, q⟩ | ⟨_, q⟩ <;> exact (List.getElem?_eq_some_iff.mp q).1
                rw [List.getElem?_set_self hlt] at h1
                cases h1
                exact .inr ⟨0, c, c0, rfl, rfl, hy⟩
              · rw [List.getElem?_set_ne (Ne.symm e)] at h1
                exact .inl ⟨h1, fun j => by
                  cases j with
                  | zero => intro q; simp at q; exact e q.symm
                  | succ j => simpa using h2 j⟩
            · have e : i ≠ k := fun e => notin j (by rw [← e]; exact h1)
              rw [List.getElem?_set_ne (Ne.symm e)] at h3
              exact .inr ⟨j + 1, c', c1, by simpa using h1, by simpa using h2, h3⟩
          cases hk : ρ[k]? with
          | none => rw [hk] at h'; cases h'
          | some y =>
            rw [hk] at h'
            cases y with
            | no => cases h'
            | val d => cases h'
            | own c0 => exact fin _ c0 (.inl ⟨rfl, hk⟩) h'
            | io c0 => exact fin _ c0 (.inr ⟨rfl, hk⟩) h'
end DL
set_option Elab.async false
set_option linter.all false
set_option maxRecDepth 100000
set_option maxHeartbeats 4000000
/-! DL10: into a call and back. -/
namespace DL
open PySem L2
section
variable {P : Par} {PV : List V} {σ : L2.St} {z z0 : Z} {vs : List V} {es : List E} {args : List Sl}
theorem CR.rho {z : Z} {a : Addr} {c : Cl} {ρ : List Sl} {s : List Cl} (h : CR P z a c) : CR P ⟨z.F, z.H, z.m, ρ, s⟩ a c := by cases c <;> exact h
theorem map_some_get {vs : List V} {j : Nat} {v : V} : (vs.map some)[j]? = some (some v) ↔ vs[j]? = some v := by
  rw [List.getElem?_map]
  cases vs[j]? with
  | none => simp
  | some w => simp
theorem call_own {H0 : Hp} (S : SR P PV σ z) (l : ERs P σ z H0 vs es) (hm : mapO (slE z.ρ) es = some args) {j : Nat} {a : Addr} (h : OwnAt (vs.map some) ⟨z.F, z.H, z.m, args, z.s⟩ j a) :
    (∃ i, es[j]? = some (E.l i) ∧ OwnAt σ z i a) ∨ (∃ c, es[j]? = some (E.f c) ∧ vs[j]? = some (.ref a) ∧ z.F a = none ∧ ¬ Mu σ z a ∧ H0 a = none) := by
  obtain ⟨hl, hg⟩ := mapO_get hm
  obtain ⟨⟨c, hc⟩, hv⟩ := h
  have hv := map_some_get.mp hv
  have key : ∀ y : Sl, args[j]? = some y → (∀ d, y ≠ .val d) → (∃ i, es[j]? = some (E.l i) ∧ OwnAt σ z i a) ∨ (∃ c, es[j]? = some (E.f c) ∧ vs[j]? = some (.ref a) ∧ z.F a = none ∧ ¬ Mu σ z a ∧ H0 a = none) := fun y hy nv => by
    obtain ⟨e, he, hs⟩ := hg j y hy
    obtain ⟨v, hv', r⟩ := l.get he
    rw [hv] at hv'; cases hv'
    cases e with
    | v d => cases hs; exact absurd rfl (nv d)
    | f c =>
      obtain ⟨b, eb, h1, h2, h3, _⟩ := r
      cases eb
      exact .inr ⟨c, he, hv, h1, h2, h3⟩
    | l i =>
      refine .inl ⟨i, he, ?_, r⟩
      have hs' : (match z.ρ[i]? with | some (.own c) => some (Sl.io c) | some (.io c) => some (Sl.io c) | _ => none) = some y := hs
      cases hρ : z.ρ[i]? with
      | none => rw [hρ] at hs'; cases hs'
      | some w =>
        rw [hρ] at hs'
        cases w with
        | no => cases hs'
        | val d => cases hs'
        | own c => exact ⟨c, .inl rfl⟩
        | io c => exact ⟨c, .inr rfl⟩
  rcases hc with hc | hc
  · exact key _ hc fun d q => by cases q
  · exact key _ hc fun d q => by cases q
theorem call_enter {H0 : Hp} (S : SR P PV σ z) (l : ERs P σ z H0 vs es) (hm : mapO (slE z.ρ) es = some args) (ho : oneL es = true) : SR P vs (vs.map some) ⟨z.F, z.H, z.m, args, z.s⟩ := by
  obtain ⟨hl, hg⟩ := mapO_get hm
  refine ⟨S.fz, S.len, S.nd, fun n a c h1 h2 => ⟨(S.cl n a c h1 h2).1, (S.cl n a c h1 h2).2.rho⟩, fun j y hy => ?_, fun j k a h1 h2 => ?_, by show args.length ≤ (vs.map some).length; rw [List.length_map, l.length, hl]; exact Nat.le_refl _⟩
  · obtain ⟨e, he, hs⟩ := hg j y hy
    obtain ⟨v, hv, r⟩ := l.get he
    cases e with
    | v d => cases hs; exact ⟨v, map_some_get.mpr hv, r⟩
    | f c =>
      cases hs
      obtain ⟨b, rfl, h1, h2, _, h4⟩ := r
      exact ⟨b, map_some_get.mpr hv, hv, h1, fun q => h2 (.inl q), h4.rho⟩
    | l i =>
      have hs' : (match z.ρ[i]? with | some (.own c) => some (Sl.io c) | some (.io c) => some (Sl.io c) | _ => none) = some y := hs
      have hi : σ[i]? = some (some v) := r
      cases hρ : z.ρ[i]? with
      | none => rw [hρ] at hs'; cases hs'
      | some w =>
        rw [hρ] at hs'
        cases w with
        | no => cases hs'
        | val d => cases hs'
        | own c =>
          cases hs'
          obtain ⟨b, e1, h1, h2, h3⟩ := S.sl i _ hρ
          rw [hi] at e1; cases e1
          exact ⟨b, map_some_get.mpr hv, hv, h1, h2, h3.rho⟩
        | io c =>
          cases hs'
          obtain ⟨b, e1, _, h1, h2, h3⟩ := S.sl i _ hρ
          rw [hi] at e1; cases e1
          exact ⟨b, map_some_get.mpr hv, hv, h1, h2, h3.rho⟩
  · rcases call_own S l hm h1 with ⟨i, e1, o1⟩ | ⟨c, e1, v1, _, m1, _⟩
    · rcases call_own S l hm h2 with ⟨i', e2, o2⟩ | ⟨c, e2, v2, _, m2, _⟩
      · have := S.sd i i' a o1 o2
        subst this
        exact oneL_ne ho e1 e2
      · exact absurd (.inr ⟨i, o1⟩) m2
    · rcases call_own S l hm h2 with ⟨i', e2, o2⟩ | ⟨c', e2, v2, _, m2, _⟩
      · exact absurd (.inr ⟨i', o2⟩) m1
      · exact l.ne e1 e2 v1 v2
theorem call_noown (hm : mapO (slE z.ρ) es = some args) (j : Nat) (c : Cl) : args[j]? ≠ some (.own c) := fun q => by
  obtain ⟨e, he, hs⟩ := (mapO_get hm).2 j _ q
  cases e with
  | v d => cases hs
  | f c => cases hs
  | l i =>
    have hs' : (match z.ρ[i]? with | some (.own c) => some (Sl.io c) | some (.io c) => some (Sl.io c) | _ => none) = some (Sl.own c) := hs
    cases hρ : z.ρ[i]? with
    | none => rw [hρ] at hs'; cases hs'
    | some w => rw [hρ] at hs'; cases w <;> cases hs'
structure Back (P : Par) (PV : List V) (σ : L2.St) (z0 : Z) (vs : List V) (es : List E) (H : Hp) (zc : Z) (z' : Z) : Prop where
  sr : SR P PV σ z'
  ex : EX σ z0 σ z'
  er : ∀ v e, (∀ i, e ≠ E.l i) → ER P (vs.map some) zc H v e → ER P σ z' z0.H v e
  xr : ∀ ns ds d, XR P (vs.map some) zc ns ds d → XR P σ z' ns ds d
  fr : ∀ (j : Nat) c c' v, es[j]? = some (.f c) → zc.ρ[j]? = some (.io c') → vs[j]? = some v → ER P σ z' z0.H v (.f c')
theorem call_exit {F' H' : Hp} {m' : List Addr} {as ρ' : List Sl} {s' : List Cl} (S0 : SR P PV σ z0) (x0 : EX σ z0 σ z) (S : SR P PV σ z) (l : ERs P σ z z0.H vs es) (hm : mapO (slE z.ρ) es = some args) (ho : oneL es = true)
    (x : EX (vs.map some) ⟨z.F, z.H, z.m, args, z.s⟩ (vs.map some) ⟨F', H', m', as, s'⟩) (Sc : SR P vs (vs.map some) ⟨F', H', m', as, s'⟩) (hb : backS es as z.ρ = some ρ') :
    Back P PV σ z0 vs es z.H ⟨F', H', m', as, s'⟩ ⟨F', H', m', ρ', s'⟩ := by
  obtain ⟨hbl, hbg⟩ := back_get hb ho
  have Se := call_enter S l hm ho
  -- the frame's things are the same ones
  have own : ∀ i a, OwnAt σ ⟨F', H', m', ρ', s'⟩ i a → OwnAt σ z i a := fun i a ⟨⟨c, hc⟩, e⟩ => by
    have key : ∀ y : Sl, ρ'[i]? = some y → (y = .own c ∨ y = .io c) → OwnAt σ z i a := fun y hy hyy => by
      rcases hbg i y hy with ⟨q, _⟩ | ⟨j, c1, c0, _, _, q⟩
      · rcases hyy with rfl | rfl
        · exact ⟨⟨c, .inl q⟩, e⟩
        · exact ⟨⟨c, .inr q⟩, e⟩
      · rcases q with ⟨_, q⟩ | ⟨_, q⟩
        · exact ⟨⟨c0, .inl q⟩, e⟩
        · exact ⟨⟨c0, .inr q⟩, e⟩
    rcases hc with hc | hc
    · exact key _ hc (.inl rfl)
    · exact key _ hc (.inr rfl)
  -- a thing that was not handed over
  have apart : ∀ i a, OwnAt σ z i a → (∀ (j : Nat), es[j]? ≠ some (E.l i)) → ¬ Mu (vs.map some) ⟨z.F, z.H, z.m, args, z.s⟩ a := fun i a ho' hn q => by
    rcases q with q | ⟨j, q⟩
    · exact (S.own ho').2.1 q
    · rcases call_own S l hm q with ⟨i', e1, o1⟩ | ⟨c, _, _, _, m1, _⟩
      · have := S.sd i i' a ho' o1
        subst this
        exact hn j e1
      · exact m1 (.inr ⟨i, ho'⟩)
  have cmu : ∀ a, Mu (vs.map some) ⟨z.F, z.H, z.m, args, z.s⟩ a → Mu σ z a ∨ z0.H a = none := fun a q => by
    rcases q with q | ⟨j, q⟩
    · exact .inl (.inl q)
    · rcases call_own S l hm q with ⟨i', _, o1⟩ | ⟨c, _, _, _, _, h1⟩
      · exact .inl (.inr ⟨i', o1⟩)
      · exact .inr h1
  -- what the frame may change behind the call and the callee could not
  have mine : ∀ a, Mu σ ⟨F', H', m', ρ', s'⟩ a → Mu (vs.map some) ⟨F', H', m', as, s'⟩ a ∨ (∃ i, OwnAt σ z i a ∧ ∀ (j : Nat), es[j]? ≠ some (E.l i)) := fun a q => by
    rcases q with q | ⟨i, q⟩
    · exact .inl (.inl q)
    · have o := own i a q
      obtain ⟨⟨c, hc⟩, e⟩ := q
      have key : ∀ y : Sl, ρ'[i]? = some y → (y = .own c ∨ y = .io c) → Mu (vs.map some) ⟨F', H', m', as, s'⟩ a ∨ (∃ i, OwnAt σ z i a ∧ ∀ (j : Nat), es[j]? ≠ some (E.l i)) := fun y hy hyy => by
        rcases hbg i y hy with ⟨_, q⟩ | ⟨j, c1, c0, h1, h2, _⟩
        · exact .inr ⟨i, o, q⟩
        · refine .inl (.inr ⟨j, ⟨c1, .inr h2⟩, ?_⟩)
          obtain ⟨v, hv, r⟩ := l.get h1
          have hi : σ[i]? = some (some v) := r
          rw [e] at hi; cases hi
          exact map_some_get.mpr hv
      rcases hc with hc | hc
      · exact key _ hc (.inl rfl)
      · exact key _ hc (.inr rfl)
  have loose : ∀ i a c, OwnAt σ z i a → CR P z a c → z.F a = none → (∀ (j : Nat), es[j]? ≠ some (E.l i)) → F' a = none ∧ ¬ Mu (vs.map some) ⟨F', H', m', as, s'⟩ a ∧ CR P ⟨F', H', m', as, s'⟩ a c := fun i a c o hc hf hn =>
    EX.loose Se x (show (⟨z.F, z.H, z.m, args, z.s⟩ : Z).F a = none from hf) (apart i a o hn) hc.rho
  refine ⟨⟨Sc.fz, Sc.len, Sc.nd, fun n a c h1 h2 => ⟨(Sc.cl n a c h1 h2).1, (Sc.cl n a c h1 h2).2.rho⟩, fun i y hy => ?_, fun i k a h1 h2 => S.sd i k a (own i a h1) (own k a h2), by show ρ'.length ≤ _; rw [hbl]; exact S.ln⟩,
    ⟨fun a o h => x.fs a o (x0.fs a o h), ?_, fun a o h nm nf => ?_, fun a o h => ?_, fun a o h => ?_, fun a h => ?_⟩, fun v e hne r => ?_, fun ns ds d h => ?_, fun j c c' v h1 h2 h3 => ?_⟩
  · rcases hbg i y hy with ⟨q, hn⟩ | ⟨j, c1, c0, h1, h2, hq⟩
    · have r := S.sl i y q
      cases y with
      | no => trivial
      | val d => obtain ⟨v, e1, e2⟩ := r; exact ⟨v, e1, e2.mono x.fs x.mp⟩
      | own c =>
        obtain ⟨a, e1, e2, e3, e4⟩ := r
        obtain ⟨f1, f2, f3⟩ := loose i a c ⟨⟨c, .inl q⟩, e1⟩ e4 e2 hn
        exact ⟨a, e1, f1, fun q => f2 (.inl q), f3.rho⟩
      | io c =>
        obtain ⟨a, e1, e0, e2, e3, e4⟩ := r
        obtain ⟨f1, f2, f3⟩ := loose i a c ⟨⟨c, .inr q⟩, e1⟩ e4 e2 hn
        exact ⟨a, e1, e0, f1, fun q => f2 (.inl q), f3.rho⟩
    · obtain ⟨v, hv, r⟩ := l.get h1
      have hi : σ[i]? = some (some v) := r
      obtain ⟨a, e1, e2, e3, e4, e5⟩ := Sc.sl j _ h2
      have e1 := map_some_get.mp e1
      rw [hv] at e1; cases e1
      rcases hq with ⟨rfl, q⟩ | ⟨rfl, q⟩
      · exact ⟨a, hi, e3, e4, e5.rho⟩
      · obtain ⟨b, e6, e7, _⟩ := S.sl i _ q
        rw [hi] at e6; cases e6
        exact ⟨a, hi, e7, e3, e4, e5.rho⟩
  · obtain ⟨r1, e1⟩ := x0.mp
    obtain ⟨r2, e2⟩ := x.mp
    have e2 : m' = z.m ++ r2 := e2
    exact ⟨r1 ++ r2, by show m' = _; rw [e2, e1, List.append_assoc]⟩
  · have h1 := x0.oth a o h nm nf
    have n1 : ¬ Mu σ z a := fun q => by
      rcases x0.mu a q with q | q
      · exact nm q
      · rw [h] at q; cases q
    have f1 : z.F a = none := by
      cases e : z.F a with
      | none => rfl
      | some u =>
        rcases x0.nw a u e with q | q | q
        · rw [nf] at q; cases q
        · rw [h] at q; cases q
        · exact absurd q nm
    refine x.oth a o h1 (fun q => ?_) f1
    rcases cmu a q with q | q
    · exact n1 q
    · rw [h] at q; cases q
  · rcases x.nw a o h with q | q | q
    · exact x0.nw a o q
    · exact .inr (.inl (x0.kn q))
    · rcases cmu a q with q | q
      · rcases x0.mu a q with q | q
        · exact .inr (.inr q)
        · exact .inr (.inl q)
      · exact .inr (.inl q)
  · obtain ⟨o', q⟩ := x0.kp a o h
    exact x.kp a o' q
  · rcases mine a h with q | ⟨i, o, _⟩
    · rcases x.mu a q with q | q
      · rcases cmu a q with q | q
        · exact x0.mu a q
        · exact .inr q
      · exact .inr (x0.kn q)
    · exact x0.mu a (.inr ⟨i, o⟩)
  · cases e with
    | v d => exact r
    | l i => exact absurd rfl (hne i)
    | f c =>
      obtain ⟨a, rfl, h1, h2, h3, h4⟩ := r
      refine ⟨a, rfl, h1, fun q => ?_, x0.kn h3, h4.rho⟩
      rcases mine a q with q | ⟨i, o, _⟩
      · exact h2 q
      · obtain ⟨o', ho'⟩ := S.mu_there (.inr ⟨i, o⟩)
        rw [h3] at ho'; cases ho'
  · rcases h with h | ⟨dx, gv, e, hl, hx, hf, hmu, r⟩
    · exact .inl h
    · refine .inr ⟨dx, gv, e, hl, hx, hf, fun q => ?_, r⟩
      rcases mine dx q with q | ⟨i, o, hn⟩
      · exact hmu q
      · obtain ⟨_, _, c, _, hc⟩ := S.own o
        obtain ⟨_, _, h3⟩ := loose i dx c o hc (S.own o).1 hn
        have hx : H' dx = some (.xd (ns.zip gv)) := hx
        cases c with
        | lst ds => obtain ⟨_, e1, _⟩ := h3; have e1 : H' dx = _ := e1; rw [hx] at e1; cases e1
        | dk ks ds => obtain ⟨_, _, e1, _⟩ := h3; have e1 : H' dx = _ := e1; rw [hx] at e1; cases e1
        | dt ks ds => obtain ⟨_, _, e1, _⟩ := h3; have e1 : H' dx = _ := e1; rw [hx] at e1; cases e1
        | ins n ns ds => obtain ⟨_, _, _, e1, _⟩ := h3; have e1 : H' dx = _ := e1; rw [hx] at e1; cases e1
  · obtain ⟨w, hw, r⟩ := l.get h1
    rw [h3] at hw; cases hw
    obtain ⟨a, rfl, f1, f2, f3, f4⟩ := r
    obtain ⟨b, e1, e2, e3, e4, e5⟩ := Sc.sl j _ h2
    have e1 := map_some_get.mp e1
    rw [h3] at e1; cases e1
    refine ⟨a, rfl, e3, fun q => ?_, f3, e5.rho⟩
    rcases q with q | ⟨i, q⟩
    · exact e4 q
    · exact f2 (.inr ⟨i, own i a q⟩)
end
end DL
set_option Elab.async false
set_option linter.all false
set_option maxRecDepth 100000
set_option maxHeartbeats 4000000
/-! DL11: defs: promise, call, method, making; a def from its body. -/
namespace DL
open PySem L2 PySem.Spec PyProof.Rows

/-- what is known of a def -/
structure Fn (P : Program) (w : World) (K : PySem.W.Frag) (mg : Str → Option Value) (base : Heap) (k : Nat) (f : Addr) (fd : FuncData) (ps : List Str) (sp : Sp) : Prop where
  len : ∀ vs H Q Ex, sp vs H Q Ex → vs.length = ps.length
  run : ∀ (A : Around) (outer : List Env) (s : Shared) (H : Hp) (args : Args) (us : List Value) (vs : List V) (Q : VK) (Ex : XK), A.guards = some [] → Room k A → Env0 P w K mg base A outer s H → BindsTo s fd args (ps.zip us) → Vals vs us → sp vs H Q Ex →
    codeAny (model P w) A (.call (.ref f) args) (L2.CR (L2.CX P w) outer P w H s Q Ex) s
theorem Fn.mono {P : Program} {w : World} {K : PySem.W.Frag} {mg : Str → Option Value} {base : Heap} {j k : Nat} {f : Addr} {fd : FuncData} {ps : List Str} {sp : Sp} (F : Fn P w K mg base j f fd ps sp) (h : j ≤ k) : Fn P w K mg base k f fd ps sp :=
  ⟨F.len, fun A outer s H args us vs Q Ex g hr => F.run A outer s H args us vs Q Ex g (hr.mono h)⟩
theorem guards_make {A : Around} {C : Addr} {us : List Value} {kw : List (Str × Value)} (h : A.guards = some []) : (A.under (.builtin "type.__call__" ⟨.ref C :: us, kw⟩)).guards = some [] := by
  first | exact h | simp [Around.under, Code.guards, Code.isGuard, pushGuards, guardIds, h]

section
variable {X : Cx} {k : Nat} {f C : Addr} {fd : FuncData} {ps ks : List Str} {sp : Sp} {Ex : XK} {pins : List (Addr × Obj)} {σ : L2.St} {H : Hp} {s : Shared} {Q : VK} {us ws : List Value} {vs zs : List V}
theorem run_g {args : Args} (F : Fn X.prog X.w X.K X.mg X.base k f fd ps sp) (hg : X.A.guards = some []) (hr : Room k X.A) (hx : PassesAt (L2.CX X.prog X.w) X σ Ex) (I : Inv X pins σ H s) (hb : BindsTo s fd args (ps.zip us)) (r : Vals vs us) (h : sp vs H Q Ex) :
    codeAny (model X.prog X.w) X.A (.call (.ref f) args) (fun r s' => match r with | .ok (.ret u) => EP X pins σ Q u s' | .ok _ => False | .error e => X.xe e s') s :=
  codeAny_mono (F.run X.A X.stack s H args us vs Q Ex hg hr I.env0 hb r h) fun r s' hq => by
    cases r with
    | error e => exact hx pins H s e s' I hq
    | ok fl =>
      cases fl with
      | ret u => exact I.after hq
      | next => exact False.elim hq
      | brk => exact False.elim hq
      | cont => exact False.elim hq
theorem run_gp (F : Fn X.prog X.w X.K X.mg X.base k f fd ps sp) (hg : X.A.guards = some []) (hr : Room k X.A) (hb : Binds X.K fd ps []) (hx : PassesAt (L2.CX X.prog X.w) X σ Ex) (I : Inv X pins σ H s) (r : Vals vs us) (h : sp vs H Q Ex) :
    wpAny (model X.prog X.w) X.A (call (.ref f) us) (EP X pins σ Q) X.xe s := by
  have hl : us.length = ps.length := by rw [← r.length]; exact F.len _ _ _ _ h
  have b := hb s us I.kIn (by rw [List.append_nil]; exact hl)
  rw [List.append_nil] at b
  refine wpAny_call (codeAny_mono (run_g F hg hr hx I b r h) fun r s' hq => ?_)
  cases r with
  | error e => exact hq
  | ok fl =>
    cases fl with
    | ret u => exact hq
    | next => exact False.elim hq
    | brk => exact False.elim hq
    | cont => exact False.elim hq
theorem run_gk {g : List Value → List Value → List Value} {gV : List V → List V → List V} (F : Fn X.prog X.w X.K X.mg X.base k f fd ps sp) (hg : X.A.guards = some []) (hr : Room k X.A) (hb : KBinds X.K fd ps ks g gV) (hx : PassesAt (L2.CX X.prog X.w) X σ Ex)
    (I : Inv X pins σ H s) (r : Vals vs us) (rz : Vals zs ws) (h : sp (gV vs zs) H Q Ex) : wpAny (model X.prog X.w) X.A (call (.ref f) us (ks.zip ws)) (EP X pins σ Q) X.xe s := by
  have r2 := hb.rel r rz
  have hl : (g us ws).length = ps.length := by rw [← r2.length]; exact F.len _ _ _ _ h
  refine wpAny_call (codeAny_mono (run_g F hg hr hx I (hb.to s us ws I.kIn hl) r2 h) fun r s' hq => ?_)
  cases r with
  | error e => exact hq
  | ok fl =>
    cases fl with
    | ret u => exact hq
    | next => exact False.elim hq
    | brk => exact False.elim hq
    | cont => exact False.elim hq
theorem run_gmake (M : Mk X.K C f) (F : Fn X.prog X.w X.K X.mg X.base k f fd ps sp) (hg : X.A.guards = some []) (hr : Room (k + 1) X.A) (hb : Binds X.K fd ps []) (hx : PassesAt (L2.CX X.prog X.w) X σ Ex) (I : Inv X pins σ H s) (r : Vals vs us)
    (h : ∀ x dx, H x = none → H dx = none → dx ≠ x → sp (.ref x :: vs) (upd (upd H dx (.own x)) x (.ins C dx [])) (fun v H2 => v = .non ∧ Q (.ref x) H2) Ex) :
    wpAny (model X.prog X.w) X.A (call (.ref C) us) (EP X pins σ Q) X.xe s := by
  have hq := h (s.heap.objs.size + 1) s.heap.objs.size (I.hok.fresh (Nat.le_succ _)) (I.hok.fresh (Nat.le_refl _)) (Nat.ne_of_lt (Nat.lt_succ_self _))
  have I2 := Inv.made (C := C) I
  have r2 : Vals (V.ref (s.heap.objs.size + 1) :: vs) (Value.ref (s.heap.objs.size + 1) :: us) := .cons rfl r
  have hl : (Value.ref (s.heap.objs.size + 1) :: us).length = ps.length := by rw [← r2.length]; exact F.len _ _ _ _ hq
  have b := hb _ (Value.ref (s.heap.objs.size + 1) :: us) I2.kIn (by rw [List.append_nil]; exact hl)
  rw [List.append_nil] at b
  refine wpAny_call (make_map (f := f) I.kIn M.makes M.init (beq_iff_eq.mp M.fn) (codeAny_mono (F.run _ X.stack _ _ ⟨Value.ref (s.heap.objs.size + 1) :: us, []⟩ (Value.ref (s.heap.objs.size + 1) :: us) _ _ Ex (guards_make hg) (hr.make C us [])
    (I2.env0.make C us []) b r2 hq) fun r s' hq' => ?_))
  cases r with
  | error e => exact hx pins _ _ e s' I2 hq'
  | ok fl =>
    cases fl with
    | ret u =>
      obtain ⟨v, H', I3, rv, ev, q3⟩ := I2.after hq'
      subst ev
      exact ⟨rv, ⟨V.ref (s.heap.objs.size + 1), H', I3, rfl, q3⟩⟩
    | next => exact False.elim hq'
    | brk => exact False.elim hq'
    | cont => exact False.elim hq'
end

/-! ### the rules of calls, at values -/
section
variable {X : Cx} {k : Nat} {f C : Addr} {fd : FuncData} {ps : List Str} {sp : Sp} {Ex : L2.St → XK} {x m : Str} {p pos apos : Pos} {e o : Expr} {es : List Expr} {ta : TE} {t : TA}
def tCall (sp : Sp) (Ex : L2.St → XK) (t : TA) : TE := fun σ H Q => t σ H fun vs H1 => sp vs H1 Q (Ex σ)
theorem pe_callG (F : Fn X.prog X.w X.K X.mg X.base k f fd ps sp) (hgd : X.A.guards = some []) (hr : Room k X.A) (hg : Gl X x) (hm : X.mg x = some (.ref f)) (hk : PySem.W.keepIn X.K (.ref f) = true) (hb : Binds X.K fd ps []) (hx : ∀ σ, PassesAt (L2.CX X.prog X.w) X σ (Ex σ))
    (ha : PA X (e :: es) t) (hdb : (x == ("__debug__" : Str)) = false := by decide) (he : starEach (e :: es) X.env = (false, eval e X.env) :: starEach es X.env := by rfl) (hpl : (backTo pos (starEach es X.env)).any (·.1) = false := by rfl) :
    PE X (.Call (.Name x p) (e :: es) [] pos) (tCall sp Ex t) := by
  refine ⟨fun pins s σ H Q I h => ?_⟩
  refine wpAny_Call_Name_kw (ld_glob I hg hm ?_ hdb)
  refine PySem.W.callWith_K (h₀ := X.base) I.ok.mod.kin hk (thn (ha.run pos pins s σ H _ I h) fun us s1 ⟨vs, H1, I1, r, q⟩ => ⟨I1.kIn, ?_⟩) he hpl
  exact run_gp F hgd hr hb (hx σ) I1 r q
theorem pe_callG0 (F : Fn X.prog X.w X.K X.mg X.base k f fd ps sp) (hgd : X.A.guards = some []) (hr : Room k X.A) (hg : Gl X x) (hm : X.mg x = some (.ref f)) (hk : PySem.W.keepIn X.K (.ref f) = true) (hb : Binds X.K fd ps []) (hx : ∀ σ, PassesAt (L2.CX X.prog X.w) X σ (Ex σ))
    (hdb : (x == ("__debug__" : Str)) = false := by decide) : PE X (.Call (.Name x p) [] [] pos) (tCall sp Ex tNil) := by
  refine ⟨fun pins s σ H Q I h => ?_⟩
  refine wpAny_Call_Name_kw (ld_glob I hg hm ?_ hdb)
  exact PySem.W.callWith_K0 I.kIn hk (run_gp (us := []) F hgd hr hb (hx σ) I .nil h)
def tMeth (C : Addr) (m : Str) (sp : Sp) (Ex : L2.St → XK) (ta : TE) (t : TA) : TE := fun σ H Q => ta σ H fun x H1 => ∃ a dx fs, x = .ref a ∧ H1 a = some (.ins C dx fs) ∧ fs.lookup m = none ∧ t σ H1 fun vs H2 => sp (x :: vs) H2 Q (Ex σ)
theorem pe_methG {pl : Sem Bool} (he : PE X o ta) (c : Cls X.K C) (hm : Meth X.K C m f) (F : Fn X.prog X.w X.K X.mg X.base k f fd ps sp) (hgd : X.A.guards = some []) (hr : Room k X.A) (hb : Binds X.K fd ps []) (hx : ∀ σ, PassesAt (L2.CX X.prog X.w) X σ (Ex σ)) (ha : PA X (e :: es) t)
    (hst : starEach (e :: es) X.env = (false, eval e X.env) :: starEach es X.env := by rfl) (hpl : (backTo pos (starEach es X.env)).any (·.1) = false := by rfl)
    (ht : eval (.Call (.Attribute o m apos) (e :: es) [] pos) X.env = (do
      let ov ← eval o X.env
      standAt apos.atName
      let (f, first) ← holding [ov] (getMethod ov m pl)
      callWith pos f first (backTo pos (starEach (e :: es) X.env)) (backToKw pos (keywordEach [] X.env))) := by rfl) :
    PE X (.Call (.Attribute o m apos) (e :: es) [] pos) (tMeth C m sp Ex ta t) := by
  refine ⟨fun pins s σ H Q I h => ?_⟩
  refine PySem.W.methodCall_KW (pl := pl) (thn (he.run pins s σ H _ I h) fun u s1 ⟨x, H1, I1, rx, a, dx, fs, ex, ea, l, q⟩ => ?_) ht
  subst ex
  obtain rfl : u = Value.ref a := rx
  refine getmeth_ok I1 ea c hm l ?_
  refine PySem.W.callWith_K (first := [.ref a]) (h₀ := X.base) I.ok.mod.kin hm.kp (thn (ha.run pos pins s1 σ H1 _ I1 q) fun us s2 ⟨vs, H2, I2, r, q2⟩ => ⟨I2.kIn, ?_⟩) hst hpl
  exact run_gp (us := .ref a :: us) (vs := .ref a :: vs) F hgd hr hb (hx σ) I2 (.cons rfl r) q2
theorem pe_methG0 {pl : Sem Bool} (he : PE X o ta) (c : Cls X.K C) (hm : Meth X.K C m f) (F : Fn X.prog X.w X.K X.mg X.base k f fd ps sp) (hgd : X.A.guards = some []) (hr : Room k X.A) (hb : Binds X.K fd ps []) (hx : ∀ σ, PassesAt (L2.CX X.prog X.w) X σ (Ex σ))
    (ht : eval (.Call (.Attribute o m apos) [] [] pos) X.env = (do
      let ov ← eval o X.env
      standAt apos.atName
      let (f, first) ← holding [ov] (getMethod ov m pl)
      callWith pos f first (backTo pos (starEach [] X.env)) (backToKw pos (keywordEach [] X.env))) := by rfl) :
    PE X (.Call (.Attribute o m apos) [] [] pos) (tMeth C m sp Ex ta tNil) := by
  refine ⟨fun pins s σ H Q I h => ?_⟩
  refine PySem.W.methodCall_KW (pl := pl) (thn (he.run pins s σ H _ I h) fun u s1 ⟨x, H1, I1, rx, a, dx, fs, ex, ea, l, q⟩ => ?_) ht
  subst ex
  obtain rfl : u = Value.ref a := rx
  refine getmeth_ok I1 ea c hm l ?_
  exact PySem.W.callWith_K0 (first := [.ref a]) I1.kIn hm.kp (run_gp (us := [.ref a]) (vs := [.ref a]) F hgd hr hb (hx σ) I1 (.cons rfl .nil) q)
def tMake (C : Addr) (sp : Sp) (Ex : L2.St → XK) (t : TA) : TE := fun σ H Q => t σ H fun vs H1 => ∀ x dx, H1 x = none → H1 dx = none → dx ≠ x → sp (.ref x :: vs) (upd (upd H1 dx (.own x)) x (.ins C dx [])) (fun v H2 => v = .non ∧ Q (.ref x) H2) (Ex σ)
theorem pe_makeG (M : Mk X.K C f) (F : Fn X.prog X.w X.K X.mg X.base k f fd ps sp) (hgd : X.A.guards = some []) (hr : Room (k + 1) X.A) (hg : Gl X x) (hm : X.mg x = some (.ref C)) (hb : Binds X.K fd ps []) (hx : ∀ σ, PassesAt (L2.CX X.prog X.w) X σ (Ex σ))
    (ha : PA X (e :: es) t) (hdb : (x == ("__debug__" : Str)) = false := by decide) (he : starEach (e :: es) X.env = (false, eval e X.env) :: starEach es X.env := by rfl) (hpl : (backTo pos (starEach es X.env)).any (·.1) = false := by rfl) :
    PE X (.Call (.Name x p) (e :: es) [] pos) (tMake C sp Ex t) := by
  refine ⟨fun pins s σ H Q I h => ?_⟩
  refine wpAny_Call_Name_kw (ld_glob I hg hm ?_ hdb)
  refine PySem.W.callWith_K (h₀ := X.base) I.ok.mod.kin M.kp (thn (ha.run pos pins s σ H _ I h) fun us s1 ⟨vs, H1, I1, r, q⟩ => ⟨I1.kIn, ?_⟩) he hpl
  exact run_gmake M F hgd hr hb (hx σ) I1 r q
theorem pe_makeG0 (M : Mk X.K C f) (F : Fn X.prog X.w X.K X.mg X.base k f fd ps sp) (hgd : X.A.guards = some []) (hr : Room (k + 1) X.A) (hg : Gl X x) (hm : X.mg x = some (.ref C)) (hb : Binds X.K fd ps []) (hx : ∀ σ, PassesAt (L2.CX X.prog X.w) X σ (Ex σ))
    (hdb : (x == ("__debug__" : Str)) = false := by decide) : PE X (.Call (.Name x p) [] [] pos) (tMake C sp Ex tNil) := by
  refine ⟨fun pins s σ H Q I h => ?_⟩
  refine wpAny_Call_Name_kw (ld_glob I hg hm ?_ hdb)
  exact PySem.W.callWith_K0 I.kIn M.kp (run_gmake (us := []) M F hgd hr hb (hx σ) I .nil h)
end
end DL
set_option Elab.async false
set_option linter.all false
set_option maxRecDepth 100000
set_option maxHeartbeats 4000000
/-! DL12: calls by their meaning; a def by its body's meaning. -/
namespace DL
open PySem L2 PySem.Spec PyProof.Rows

def bindR {α β : Type} (k : β → M α) : R β → R α
  | .ok x ρ s => k x ρ s
  | .ex c ns vs ρ s => .ex c ns vs ρ s
  | .no => .no
theorem bind_eq {α β : Type} (f : M β) (k : β → M α) (ρ : List Sl) (s : List Cl) : M.bind f k ρ s = bindR k (f ρ s) := by
  unfold M.bind
  cases f ρ s <;> rfl
theorem afterC_ok {es : List E} {ρ as : List Sl} {e : E} {s' : List Cl} {q : Option (List Sl)} : backS es as ρ = q → afterC es ρ (.ok e as s') = match q with | some ρ' => wrapC e as ρ' s' | none => .no := fun h => by
  subst h; rfl
theorem afterC_ex {es : List E} {ρ as : List Sl} {c ns vs} {s' : List Cl} {q : Option (List Sl)} : backS es as ρ = q → afterC es ρ (.ex c ns vs as s') = match q with | some ρ' => .ex c ns vs ρ' s' | none => .no := fun h => by
  subst h; rfl
section
variable {P : Par} {PV : List V} {W : WX} {σ : L2.St} {z0 z : Z} {vs : List V} {es : List E} {α β : Type} {rel : Z → β → α → Prop} {Q : β → Hp → Prop}
/-- the callee runs: what is asked of it -/
theorem sp_call {n : Nat} {f : M E} {k : E × List Sl → List Sl → List Cl → R α} {Q1 : VK} (hn : es.length = n) (S0 : SR P PV σ z0) (x0 : EX σ z0 σ z) (S : SR P PV σ z) (l : ERs P σ z z0.H vs es)
    (A : Acc P PV W σ z0 rel (M.bind (gCallR f es) k z.ρ z.s) Q)
    (hk : ∀ v e as z', (∀ i, e ≠ E.l i) → SR P PV σ z' → EX σ z0 σ z' → ER P σ z' z0.H v e → (∀ (j : Nat) c c' v, es[j]? = some (.f c) → as[j]? = some (.io c') → vs[j]? = some v → ER P σ z' z0.H v (.f c')) → Acc P PV W σ z0 rel (k (e, as) z'.ρ z'.s) Q → Q1 v z'.H) :
    spD P n f vs z.H Q1 (WE W σ) := by
  rw [bind_eq] at A
  have key : ∀ r : R (E × List Sl), gCallR f es z.ρ z.s = r → Acc P PV W σ z0 rel (bindR k r) Q := fun r h => by rw [← h]; exact A
  cases hm : mapO (slE z.ρ) es with
  | none => exact (key .no (by unfold gCallR; rw [hm])).elim
  | some args =>
    have gR : gCallR f es z.ρ z.s = if oneL es = true then afterC es z.ρ (f args z.s) else .no := by unfold gCallR; rw [hm]
    by_cases ho : oneL es = true
    · rw [if_pos ho] at gR
      have hl := (mapO_get hm).1
      refine ⟨by rw [l.length, hn], ⟨z.F, z.H, z.m, args, z.s⟩, rfl, by rw [← hn, hl], call_enter S l hm ho, call_noown hm, ?_⟩
      show Acc P vs _ (vs.map some) _ (erel P (vs.map some) z.H) (f args z.s) Q1
      cases hf : f args z.s with
      | no => exact (key .no (by rw [gR, hf]; rfl)).elim
      | ex c ns ds as s' =>
        intro F H m d x Sc xr
        cases hb : backS es as z.ρ with
        | none => exact (key .no (by rw [gR, hf, afterC_ex hb])).elim
        | some ρ' =>
          have B := call_exit S0 x0 S l hm ho x Sc hb
          exact key (.ex c ns ds ρ' s') (by rw [gR, hf, afterC_ex hb]) F H m d B.ex B.sr (B.xr _ _ _ xr)
      | ok e as s' =>
        intro v F H m x Sc r
        cases hb : backS es as z.ρ with
        | none => exact (key .no (by rw [gR, hf, afterC_ok hb])).elim
        | some ρ' =>
          have B := call_exit S0 x0 S l hm ho x Sc hb
          have gw : gCallR f es z.ρ z.s = wrapC e as ρ' s' := by rw [gR, hf, afterC_ok hb]
          cases e with
          | l i => exact (key .no gw).elim
          | v d => exact hk v _ as ⟨F, H, m, ρ', s'⟩ (fun i q => by cases q) B.sr B.ex (B.er v _ (fun i q => by cases q) r) B.fr (key _ gw)
          | f c => exact hk v _ as ⟨F, H, m, ρ', s'⟩ (fun i q => by cases q) B.sr B.ex (B.er v _ (fun i q => by cases q) r) B.fr (key _ gw)
    · rw [if_neg ho] at gR
      exact (key .no gR).elim
/-- an argument list, then more, the origin kept -/
theorem lso_bind {H : Hp} {fl : M (List E)} {k : List E → M α} {rel : Hp → Z → β → α → Prop} {Q1 : List V → Hp → Prop} (h : ∃ z : Z, z.H = H ∧ SR P PV σ z ∧ Acc P PV W σ z (rel H) (M.bind fl k z.ρ z.s) Q)
    (hk : ∀ z0 z1 vs es, z0.H = H → SR P PV σ z0 → EX σ z0 σ z1 → SR P PV σ z1 → ERs P σ z1 z0.H vs es → Acc P PV W σ z0 (rel z0.H) (k es z1.ρ z1.s) Q → Q1 vs z1.H) : LEs P PV W fl σ H Q1 := by
  obtain ⟨z, rfl, S, A⟩ := h
  refine ⟨z, rfl, S, ?_⟩
  unfold M.bind at A
  cases hf : fl z.ρ z.s with
  | no => rw [hf] at A; exact A.elim
  | ex c ns vs ρ s => rw [hf] at A; exact A
  | ok e ρ s =>
    rw [hf] at A
    intro v F H1 m x S1 r
    exact hk z ⟨F, H1, m, ρ, s⟩ v e rfl S x S1 r A
end
/-- C(..) -/
def mkR : E × List Sl → M E
  | (.v .non, .io c' :: _) => M.pure (.f c')
  | _ => M.no
def gMake (n : Nat) (c : Str) (f : M E) (es : List E) : M E := fun ρ s => if es.length + 1 = n then M.bind (gCallR f (.f (.ins c [] []) :: es)) mkR ρ s else .no
/-- r.m(..), r of the class c -/
def gMeth (n : Nat) (c m : Str) (f : M E) (fl : M (List E)) (r : E) : M E := fun ρ s => match con r ρ s with
  | some (.ins c' ns _) => if c' = c ∧ ns.contains m = false then M.bind fl (fun es => gCall n f (r :: es)) ρ s else .no
  | _ => .no
theorem zip_lookup_none {m : Str} : ∀ {ns : List Str} {vs : List V}, ns.contains m = false → (ns.zip vs).lookup m = none
  | [], _, _ => rfl
  | n :: ns, [], _ => rfl
  | n :: ns, v :: vs, h => by
    rw [List.contains_cons, Bool.or_eq_false_iff] at h
    show List.lookup m ((n, v) :: ns.zip vs) = none
    rw [List.lookup_cons, h.1]
    exact zip_lookup_none h.2
section
variable {X : Cx} {G : Str → Addr} {PV : List V} {W : WX} {k n : Nat} {f C : Addr} {fd : FuncData} {ps : List Str} {F : M E} {x m : Str} {p pos apos : Pos} {e o : Expr} {es : List Expr} {fo : M E} {fl : M (List E)}
theorem call_imp : ∀ σ H Q, LE (pk X G) PV W (M.bind fl (gCall n F)) σ H Q → tCall (spD (pk X G) n F) (WE W) (LEs (pk X G) PV W fl) σ H Q := fun σ H Q h =>
  lso_bind (rel := fun H => erel (pk X G) σ H) h fun z0 z1 vs es h0 S0 x0 S1 l A => by
    have A1 : Acc (pk X G) PV W σ z0 (erel (pk X G) σ z0.H) (if es.length = n then M.bind (gCallR F es) (fun x => M.pure x.1) z1.ρ z1.s else .no) Q := A
    by_cases hn : es.length = n
    · rw [if_pos hn] at A1
      exact sp_call hn S0 x0 S1 l A1 fun v e as z' hne S' x' r _ A' => A' v z'.F z'.H z'.m x' S' r
    · rw [if_neg hn] at A1; exact A1.elim
theorem de_call (Ff : Fn X.prog X.w X.K X.mg X.base k f fd ps (spD (pk X G) n F)) (hgd : X.A.guards = some []) (hr : Room k X.A) (tk : Takes X W) (hg : Gl X x) (hm : X.mg x = some (.ref f)) (hk : PySem.W.keepIn X.K (.ref f) = true) (hb : Binds X.K fd ps [])
    (ha : PA X (e :: es) (LEs (pk X G) PV W fl)) (hdb : (x == ("__debug__" : Str)) = false := by decide) (he : starEach (e :: es) X.env = (false, eval e X.env) :: starEach es X.env := by rfl) (hpl : (backTo pos (starEach es X.env)).any (·.1) = false := by rfl) :
    PE X (.Call (.Name x p) (e :: es) [] pos) (LE (pk X G) PV W (M.bind fl (gCall n F))) :=
  PEi (pe_callG Ff hgd hr hg hm hk hb (fun σ => passAt tk σ) ha hdb he hpl) call_imp
theorem nil_imp : ∀ σ H (Q : List V → Hp → Prop), LEs (pk X G) PV W esNil σ H Q → tNil σ H Q := fun σ H Q ⟨z, e, S, A⟩ => by subst e; exact A [] z.F z.H z.m EX.refl S .nil
theorem tCall_mono {sp : Sp} {Ex : L2.St → XK} {t t' : TA} (h : ∀ σ H Q, t' σ H Q → t σ H Q) : ∀ σ H Q, tCall sp Ex t' σ H Q → tCall sp Ex t σ H Q := fun σ H Q q => h σ H _ q
theorem de_call0 (Ff : Fn X.prog X.w X.K X.mg X.base k f fd ps (spD (pk X G) n F)) (hgd : X.A.guards = some []) (hr : Room k X.A) (tk : Takes X W) (hg : Gl X x) (hm : X.mg x = some (.ref f)) (hk : PySem.W.keepIn X.K (.ref f) = true) (hb : Binds X.K fd ps [])
    (hdb : (x == ("__debug__" : Str)) = false := by decide) : PE X (.Call (.Name x p) [] [] pos) (LE (pk X G) PV W (M.bind esNil (gCall n F))) :=
  PEi (pe_callG0 Ff hgd hr hg hm hk hb (fun σ => passAt tk σ) hdb) fun σ H Q h => tCall_mono nil_imp σ H Q (call_imp σ H Q h)
theorem meth_imp (hC : G x = C) : ∀ σ H Q, LE (pk X G) PV W (M.bind fo (gMeth n x m F fl)) σ H Q → tMeth C m (spD (pk X G) n F) (WE W) (LE (pk X G) PV W fo) (LEs (pk X G) PV W fl) σ H Q := fun σ H Q h => by
  obtain ⟨z00, rfl, S00, A00⟩ := h
  refine ⟨z00, rfl, S00, ?_⟩
  unfold M.bind at A00
  cases hf : fo z00.ρ z00.s with
  | no => rw [hf] at A00; exact A00.elim
  | ex c ns vs ρ s => rw [hf] at A00; exact A00
  | ok r ρ s =>
    rw [hf] at A00
    intro v Fh H1 m1 x1 S1 r1
    have A01 : Acc (pk X G) PV W σ z00 (erel (pk X G) σ z00.H) (match con r ρ s with
      | some (.ins c' ns _) => if c' = x ∧ ns.contains m = false then M.bind fl (fun es => gCall n F (r :: es)) ρ s else .no
      | _ => .no) Q := A00
    cases hc : con r ρ s with
    | none => rw [hc] at A01; exact A01.elim
    | some cl =>
      rw [hc] at A01
      cases cl with
      | lst a => exact A01.elim
      | dk a b => exact A01.elim
      | dt a b => exact A01.elim
      | ins c' ns ds =>
        have A02 : Acc (pk X G) PV W σ z00 (erel (pk X G) σ z00.H) (if c' = x ∧ ns.contains m = false then M.bind fl (fun es => gCall n F (r :: es)) ρ s else .no) Q := A01
        by_cases hcm : c' = x ∧ ns.contains m = false
        · rw [if_pos hcm] at A02
          obtain ⟨a, rfl, dx, ws, hlen, ha, lw⟩ := con_ok S1 r1 (c := .ins c' ns ds) hc
          refine ⟨a, dx, _, rfl, by rw [← hC, ← hcm.1]; exact ha, zip_lookup_none hcm.2, ?_⟩
          refine ⟨⟨Fh, H1, m1, ρ, s⟩, rfl, S1, ?_⟩
          unfold M.bind at A02
          cases hfl : fl ρ s with
          | no => rw [hfl] at A02; exact A02.elim
          | ex c ns vs ρ s => rw [hfl] at A02; exact fun F2 H2 m2 d e2 S2 q => A02 F2 H2 m2 d (x1.trans S00 e2) S2 q
          | ok es ρ2 s2 =>
            rw [hfl] at A02
            intro vs F2 H2 m2 x2 S2 l
            have A03 : Acc (pk X G) PV W σ z00 (erel (pk X G) σ z00.H) (if (r :: es).length = n then M.bind (gCallR F (r :: es)) (fun x => M.pure x.1) ρ2 s2 else .no) Q := A02
            by_cases hn : (r :: es).length = n
            · rw [if_pos hn] at A03
              have l2 : ERs (pk X G) σ ⟨F2, H2, m2, ρ2, s2⟩ z00.H (.ref a :: vs) (r :: es) := .cons (r1.up S1 x2) (fun c hcc j c' hj q => by
                subst hcc
                obtain ⟨b, eb, _, _, _, hcr⟩ := r1
                cases eb
                obtain ⟨o, ho⟩ := hcr.there
                obtain ⟨w, hw, rw'⟩ := l.get hj
                rw [q] at hw; cases hw
                obtain ⟨b, eb, _, _, hn, _⟩ := rw'
                cases eb
                have ho : H1 a = some o := ho
                have hn : H1 a = none := hn
                rw [hn] at ho; cases ho) (l.org fun b hb => x1.kn hb)
              exact sp_call (z := ⟨F2, H2, m2, ρ2, s2⟩) hn S00 (x1.trans S00 x2) S2 l2 A03 fun v e as z' hne S' x' r _ A' => A' v z'.F z'.H z'.m x' S' r
            · rw [if_neg hn] at A03; exact A03.elim
        · rw [if_neg hcm] at A02; exact A02.elim
theorem de_meth {pl : Sem Bool} (hC : G x = C) (he : PE X o (LE (pk X G) PV W fo)) (c : Cls X.K C) (hm : Meth X.K C m f) (Ff : Fn X.prog X.w X.K X.mg X.base k f fd ps (spD (pk X G) n F)) (hgd : X.A.guards = some []) (hr : Room k X.A) (tk : Takes X W) (hb : Binds X.K fd ps []) (ha : PA X (e :: es) (LEs (pk X G) PV W fl))
    (hst : starEach (e :: es) X.env = (false, eval e X.env) :: starEach es X.env := by rfl) (hpl : (backTo pos (starEach es X.env)).any (·.1) = false := by rfl)
    (ht : eval (.Call (.Attribute o m apos) (e :: es) [] pos) X.env = (do
      let ov ← eval o X.env
      standAt apos.atName
      let (f, first) ← holding [ov] (getMethod ov m pl)
      callWith pos f first (backTo pos (starEach (e :: es) X.env)) (backToKw pos (keywordEach [] X.env))) := by rfl) :
    PE X (.Call (.Attribute o m apos) (e :: es) [] pos) (LE (pk X G) PV W (M.bind fo (gMeth n x m F fl))) := PEi (pe_methG he c hm Ff hgd hr hb (fun σ => passAt tk σ) ha hst hpl ht) (meth_imp hC)
theorem tMeth_mono {sp : Sp} {Ex : L2.St → XK} {ta : TE} {t t' : TA} (ta_mono : ∀ σ H (Q Q' : VK), (∀ v H, Q' v H → Q v H) → ta σ H Q' → ta σ H Q) (h : ∀ σ H Q, t' σ H Q → t σ H Q) : ∀ σ H Q, tMeth C m sp Ex ta t' σ H Q → tMeth C m sp Ex ta t σ H Q := fun σ H Q q =>
  ta_mono σ H _ _ (fun v H1 ⟨a, dx, fs, h1, h2, h3, h4⟩ => ⟨a, dx, fs, h1, h2, h3, h _ _ _ h4⟩) q
theorem LE_mono {P : Par} {g : M E} : ∀ σ H (Q Q' : VK), (∀ v H, Q' v H → Q v H) → LE P PV W g σ H Q' → LE P PV W g σ H Q := fun σ H Q Q' h ⟨z, e, S, A⟩ => ⟨z, e, S, A.imp h⟩
theorem de_meth0 {pl : Sem Bool} (hC : G x = C) (he : PE X o (LE (pk X G) PV W fo)) (c : Cls X.K C) (hm : Meth X.K C m f) (Ff : Fn X.prog X.w X.K X.mg X.base k f fd ps (spD (pk X G) n F)) (hgd : X.A.guards = some []) (hr : Room k X.A) (tk : Takes X W) (hb : Binds X.K fd ps [])
    (ht : eval (.Call (.Attribute o m apos) [] [] pos) X.env = (do
      let ov ← eval o X.env
      standAt apos.atName
      let (f, first) ← holding [ov] (getMethod ov m pl)
      callWith pos f first (backTo pos (starEach [] X.env)) (backToKw pos (keywordEach [] X.env))) := by rfl) :
    PE X (.Call (.Attribute o m apos) [] [] pos) (LE (pk X G) PV W (M.bind fo (gMeth n x m F esNil))) := PEi (pe_methG0 he c hm Ff hgd hr hb (fun σ => passAt tk σ) ht) fun σ H Q h => tMeth_mono LE_mono nil_imp σ H Q (meth_imp hC σ H Q h)
theorem make_imp (hC : G x = C) : ∀ σ H Q, LE (pk X G) PV W (M.bind fl (gMake n x F)) σ H Q → tMake C (spD (pk X G) n F) (WE W) (LEs (pk X G) PV W fl) σ H Q := fun σ H Q h =>
  lso_bind (rel := fun H => erel (pk X G) σ H) h fun z0 z1 vs es h0 S0 x0 S1 l A => fun a dx ha hdx hne => by
    have A1 : Acc (pk X G) PV W σ z0 (erel (pk X G) σ z0.H) (if es.length + 1 = n then M.bind (gCallR F (.f (.ins x [] []) :: es)) mkR z1.ρ z1.s else .no) Q := A
    by_cases hn : es.length + 1 = n
    · rw [if_pos hn] at A1
      have kk : ∀ b o, z1.H b = some o → (upd (upd z1.H dx (.own a)) a (.ins C dx [])) b = some o := fun b o e => by
        rw [upd_ne (ne_of_none e ha), upd_ne (ne_of_none e hdx)]; exact e
      have S2 := S1.grow kk
      have x2 := EX.grow (σ := σ) kk
      have l2 : ∀ {vs : List V} {es : List E}, ERs (pk X G) σ z1 z0.H vs es → ERs (pk X G) σ { z1 with H := upd (upd z1.H dx (.own a)) a (.ins C dx []) } z0.H vs es := by
        intro vs es l
        induction l with
        | nil => exact .nil
        | cons r n _ ih => exact .cons (r.up S1 x2) n ih
      have nm : ¬ Mu σ { z1 with H := upd (upd z1.H dx (.own a)) a (.ins C dx []) } a := fun q => by
        obtain ⟨o, e⟩ := S1.mu_there (a := a) q
        rw [ha] at e; cases e
      refine sp_call (z := { z1 with H := upd (upd z1.H dx (.own a)) a (.ins C dx []) }) (vs := .ref a :: vs) (es := .f (.ins x [] []) :: es) hn S0 (x0.trans S0 x2) S2 (.cons ⟨a, rfl, S1.fno ha, nm, x0.kn ha, dx, [], rfl, by rw [← hC]; exact upd_same, .nil⟩ (fun c hc j c' hj q => ?_) (l2 l)) A1 fun v e as z' he S' x' r fr A' => ?_
      · obtain ⟨w, hw, rw'⟩ := l.get hj
        rw [q] at hw; cases hw
        obtain ⟨b, eb, _, _, _, hcr⟩ := rw'
        cases eb
        obtain ⟨o, ho⟩ := hcr.there
        rw [ha] at ho; cases ho
      · cases e with
        | l i => exact A'.elim
        | f c => cases as <;> exact A'.elim
        | v d =>
          cases as with
          | nil => cases d <;> exact A'.elim
          | cons y rest =>
            cases d with
            | non =>
              cases y with
              | io c' =>
                cases (show Rep (pk X G) z'.F z'.m v .non from r)
                exact ⟨rfl, A' (.ref a) z'.F z'.H z'.m x' S' (fr 0 _ c' (.ref a) rfl rfl rfl)⟩
              | _ => exact A'.elim
            | _ => cases y <;> exact A'.elim
    · rw [if_neg hn] at A1; exact A1.elim
theorem de_make (hC : G x = C) (Mm : Mk X.K C f) (Ff : Fn X.prog X.w X.K X.mg X.base k f fd ps (spD (pk X G) n F)) (hgd : X.A.guards = some []) (hr : Room (k + 1) X.A) (tk : Takes X W) (hg : Gl X x) (hm : X.mg x = some (.ref C)) (hb : Binds X.K fd ps [])
    (ha : PA X (e :: es) (LEs (pk X G) PV W fl)) (hdb : (x == ("__debug__" : Str)) = false := by decide) (he : starEach (e :: es) X.env = (false, eval e X.env) :: starEach es X.env := by rfl) (hpl : (backTo pos (starEach es X.env)).any (·.1) = false := by rfl) :
    PE X (.Call (.Name x p) (e :: es) [] pos) (LE (pk X G) PV W (M.bind fl (gMake n x F))) := PEi (pe_makeG Mm Ff hgd hr hg hm hb (fun σ => passAt tk σ) ha hdb he hpl) (make_imp hC)
theorem de_make0 (hC : G x = C) (Mm : Mk X.K C f) (Ff : Fn X.prog X.w X.K X.mg X.base k f fd ps (spD (pk X G) n F)) (hgd : X.A.guards = some []) (hr : Room (k + 1) X.A) (tk : Takes X W) (hg : Gl X x) (hm : X.mg x = some (.ref C)) (hb : Binds X.K fd ps [])
    (hdb : (x == ("__debug__" : Str)) = false := by decide) : PE X (.Call (.Name x p) [] [] pos) (LE (pk X G) PV W (M.bind esNil (gMake n x F))) :=
  PEi (pe_makeG0 Mm Ff hgd hr hg hm hb (fun σ => passAt tk σ) hdb) fun σ H Q h => nil_imp σ H _ (make_imp hC σ H Q h)
end
end DL
set_option Elab.async false
set_option linter.all false
set_option maxRecDepth 100000
set_option maxHeartbeats 4000000
/-! DL13: a def by its body's meaning. -/
namespace DL
open PySem L2 PySem.Spec PyProof.Rows

/-- the caller's things, as the body leaves them -/
def ioF : List Sl → List Sl → Option (List Sl)
  | [], _ => some []
  | .io _ :: as, .io c :: ρ => (ioF as ρ).map (Sl.io c :: ·)
  | .val _ :: as, _ :: ρ => (ioF as ρ).map (Sl.no :: ·)
  | .no :: as, _ :: ρ => (ioF as ρ).map (Sl.no :: ·)
  | _ :: _, _ => none
theorem ioF_get : ∀ {as ρ as' : List Sl}, ioF as ρ = some as' → as'.length = as.length ∧ ∀ (j : Nat), (∀ c, as'[j]? = some (Sl.io c) → ρ[j]? = some (.io c)) ∧ (∀ c, as'[j]? ≠ some (Sl.own c)) ∧ (∀ d, as'[j]? ≠ some (Sl.val d)) ∧ (∀ c, as[j]? = some (Sl.io c) → ∃ c', ρ[j]? = some (.io c')) ∧ (∀ c, as[j]? ≠ some (Sl.own c))
  | [], ρ, as', h => by
    unfold ioF at h; cases h
    refine ⟨rfl, fun j => ⟨fun c q => ?_, fun c q => ?_, fun c q => ?_, fun c q => ?_, fun c q => ?_⟩⟩ <;> simp at q
  | a :: as, ρ, as', h => by
    have step : ∀ (y r : Sl) (ρ1 : List Sl), ρ = r :: ρ1 → (ioF as ρ1).map (y :: ·) = some as' → (∀ c, y = .io c → r = .io c) → (∀ c, y ≠ .own c) → (∀ d, y ≠ .val d) → (∀ c, a = .io c → ∃ c', r = .io c') → (∀ c, a ≠ .own c) →
        as'.length = (a :: as).length ∧ ∀ (j : Nat), (∀ c, as'[j]? = some (Sl.io c) → ρ[j]? = some (.io c)) ∧ (∀ c, as'[j]? ≠ some (Sl.own c)) ∧ (∀ d, as'[j]? ≠ some (Sl.val d)) ∧ (∀ c, (a :: as)[j]? = some (Sl.io c) → ∃ c', ρ[j]? = some (.io c')) ∧ (∀ c, (a :: as)[j]? ≠ some (Sl.own c)) := fun y r ρ1 hρ hm h1 h2 h3 h4 h5 => by
      subst hρ
      cases hi : ioF as ρ1 with
      | none => rw [hi] at hm; cases hm
      | some as1 =>
        rw [hi] at hm
        cases hm
        obtain ⟨hl, hg⟩ := ioF_get hi
        refine ⟨by simp [hl], fun j => ?_⟩
        cases j with
        | zero =>
          refine ⟨fun c q => ?_, fun c q => ?_, fun c q => ?_, fun c q => ?_, fun c q => ?_⟩
          · simp at q; simp [h1 c q]
          · simp at q; exact h2 c q
          · simp at q; exact h3 c q
          · simp at q; obtain ⟨c', e⟩ := h4 c q; exact ⟨c', by simp [e]⟩
          · simp at q; exact h5 c q
        | succ j => simpa using hg j
    cases a with
    | own c => cases ρ <;> (unfold ioF at h; cases h)
    | no =>
      cases ρ with
      | nil => unfold ioF at h; cases h
      | cons r ρ1 => exact step .no r ρ1 rfl h (fun c q => by cases q) (fun c q => by cases q) (fun c q => by cases q) (fun c q => by cases q) (fun c q => by cases q)
    | val d =>
      cases ρ with
      | nil => unfold ioF at h; cases h
      | cons r ρ1 => exact step .no r ρ1 rfl h (fun c q => by cases q) (fun c q => by cases q) (fun c q => by cases q) (fun c q => by cases q) (fun c q => by cases q)
    | io c0 =>
      cases ρ with
      | nil => unfold ioF at h; cases h
      | cons r ρ1 =>
        cases r with
        | io c => exact step (.io c) (.io c) ρ1 rfl h (fun c q => by cases q; rfl) (fun c q => by cases q) (fun c q => by cases q) (fun c' q => ⟨c, rfl⟩) (fun c q => by cases q)
        | no => unfold ioF at h; cases h
        | val d => unfold ioF at h; cases h
        | own d => unfold ioF at h; cases h
def finE (as : List Sl) (e : E) (ρ : List Sl) (s : List Cl) : R E := match ioF as ρ with
  | none => .no
  | some as' => match e with
    | .v d => .ok (.v d) as' s
    | .f c => .ok (.f c) as' s
    | .l i => match ρ[i]? with
      | some (.own c) => .ok (.f c) as' s
      | _ => .no
def finR (as : List Sl) : R Fl → R E
  | .ok fl ρ s => match fl with
    | .nx => finE as (.v .non) ρ s
    | .rt e => finE as e ρ s
    | .bk => .no
    | .ct => .no
  | .ex c ns vs ρ s => match ioF as ρ with
    | some as' => .ex c ns vs as' s
    | none => .no
  | .no => .no
/-- a def, by the number of its names and its body -/
def fnE (N : Nat) (b : M Fl) : M E := fun as s => finR as (b (as ++ List.replicate (N - as.length) .no) s)

section
variable {P : Par} {vs : List V} {z0 : Z} {N : List Str}
theorem start_get {i : Nat} (h : i < vs.length) : (start N vs)[i]? = (vs.map some)[i]? := by
  unfold L2.start
  rw [List.getElem?_append_left (by simpa using h)]
theorem enter_own {i : Nat} {a : Addr} (hl : z0.ρ.length = vs.length) (h : OwnAt (start N vs) ⟨z0.F, z0.H, z0.m, z0.ρ ++ List.replicate (N.length - z0.ρ.length) .no, z0.s⟩ i a) : OwnAt (vs.map some) z0 i a := by
  obtain ⟨⟨c, hc⟩, e⟩ := h
  have key : ∀ y : Sl, (z0.ρ ++ List.replicate (N.length - z0.ρ.length) Sl.no)[i]? = some y → y ≠ .no → i < z0.ρ.length ∧ z0.ρ[i]? = some y := fun y hy hn => by
    by_cases q : i < z0.ρ.length
    · rw [List.getElem?_append_left q] at hy; exact ⟨q, hy⟩
    · rw [List.getElem?_append_right (Nat.le_of_not_lt q), List.getElem?_replicate] at hy
      split at hy
      · cases hy; exact absurd rfl hn
      · cases hy
  rcases hc with hc | hc
  · obtain ⟨h1, h2⟩ := key _ hc (fun q => by cases q)
    exact ⟨⟨c, .inl h2⟩, by rw [← start_get (N := N) (by omega)]; exact e⟩
  · obtain ⟨h1, h2⟩ := key _ hc (fun q => by cases q)
    exact ⟨⟨c, .inr h2⟩, by rw [← start_get (N := N) (by omega)]; exact e⟩
theorem fn_enter (S : SR P vs (vs.map some) z0) (hl : z0.ρ.length = vs.length) (hN : vs.length ≤ N.length) :
    SR P vs (start N vs) ⟨z0.F, z0.H, z0.m, z0.ρ ++ List.replicate (N.length - z0.ρ.length) .no, z0.s⟩ ∧ EX (vs.map some) z0 (start N vs) ⟨z0.F, z0.H, z0.m, z0.ρ ++ List.replicate (N.length - z0.ρ.length) .no, z0.s⟩ := by
  refine ⟨⟨S.fz, S.len, S.nd, fun n a c h1 h2 => ⟨(S.cl n a c h1 h2).1, (S.cl n a c h1 h2).2.rho⟩, fun i y hy => ?_, fun i j a h1 h2 => S.sd i j a (enter_own hl h1) (enter_own hl h2), ?_⟩,
    ⟨fun _ _ h => h, ⟨[], (List.append_nil _).symm⟩, fun _ _ h _ _ => h, fun _ _ h => .inl h, fun _ o h => ⟨o, h⟩, fun a h => .inl (h.elim .inl fun ⟨j, h⟩ => .inr ⟨j, enter_own hl h⟩)⟩⟩
  · have hy : (z0.ρ ++ List.replicate (N.length - z0.ρ.length) Sl.no)[i]? = some y := hy
    by_cases q : i < z0.ρ.length
    · rw [List.getElem?_append_left q] at hy
      have r := S.sl i y hy
      rw [start_get (by omega)]
      cases y with
      | no => trivial
      | val d => exact r
      | own c => obtain ⟨a, e1, e2, e3, e4⟩ := r; exact ⟨a, e1, e2, e3, e4.rho⟩
      | io c => obtain ⟨a, e1, e0, e2, e3, e4⟩ := r; exact ⟨a, e1, e0, e2, e3, e4.rho⟩
    · rw [List.getElem?_append_right (Nat.le_of_not_lt q), List.getElem?_replicate] at hy
      split at hy
      · cases hy; trivial
      · cases hy
  · show (z0.ρ ++ List.replicate (N.length - z0.ρ.length) Sl.no).length ≤ (start N vs).length
    unfold L2.start
    rw [List.length_append, List.length_append, List.length_replicate, List.length_replicate, List.length_map]
    omega
theorem fn_leave {σ' : L2.St} {F H : Hp} {m : List Addr} {ρ as' : List Sl} {s : List Cl} (S0 : SR P vs (vs.map some) z0) (hl : z0.ρ.length = vs.length) (x : EX (vs.map some) z0 σ' ⟨F, H, m, ρ, s⟩) (S : SR P vs σ' ⟨F, H, m, ρ, s⟩) (hi : ioF z0.ρ ρ = some as') :
    SR P vs (vs.map some) ⟨F, H, m, as', s⟩ ∧ EX (vs.map some) z0 (vs.map some) ⟨F, H, m, as', s⟩ ∧ (∀ a, Mu (vs.map some) ⟨F, H, m, as', s⟩ a → Mu σ' ⟨F, H, m, ρ, s⟩ a) ∧
    (∀ i c a, ρ[i]? = some (.own c) → OwnAt σ' ⟨F, H, m, ρ, s⟩ i a → ¬ Mu (vs.map some) ⟨F, H, m, as', s⟩ a ∧ z0.H a = none) := by
  obtain ⟨hal, hg⟩ := ioF_get hi
  have own : ∀ i a, OwnAt (vs.map some) ⟨F, H, m, as', s⟩ i a → OwnAt σ' ⟨F, H, m, ρ, s⟩ i a ∧ ∃ c, ρ[i]? = some (.io c) := fun i a ⟨⟨c, hc⟩, e⟩ => by
    rcases hc with hc | hc
    · exact absurd hc ((hg i).2.1 c)
    · have hρ := (hg i).1 c hc
      obtain ⟨b, e1, e2, _⟩ := S.sl i _ hρ
      have := map_some_get.mp e
      rw [e2] at this; cases this
      exact ⟨⟨⟨c, .inr hρ⟩, e1⟩, c, hρ⟩
  have mu : ∀ a, Mu (vs.map some) ⟨F, H, m, as', s⟩ a → Mu σ' ⟨F, H, m, ρ, s⟩ a := fun a h => h.elim .inl fun ⟨i, h⟩ => .inr ⟨i, (own i a h).1⟩
  refine ⟨⟨S.fz, S.len, S.nd, fun n a c h1 h2 => ⟨(S.cl n a c h1 h2).1, (S.cl n a c h1 h2).2.rho⟩, fun i y hy => ?_, fun i j a h1 h2 => S.sd i j a (own i a h1).1 (own j a h2).1, ?_⟩,
    ⟨x.fs, x.mp, x.oth, x.nw, x.kp, fun a h => x.mu a (mu a h)⟩, mu, fun i c a hc ho => ⟨fun q => ?_, ?_⟩⟩
  · have hy : as'[i]? = some y := hy
    cases y with
    | no => trivial
    | val d => exact absurd hy ((hg i).2.2.1 d)
    | own c => exact absurd hy ((hg i).2.1 c)
    | io c =>
      obtain ⟨b, e1, e2, e3, e4, e5⟩ := S.sl i _ ((hg i).1 c hy)
      exact ⟨b, map_some_get.mpr e2, e2, e3, e4, e5.rho⟩
  · show as'.length ≤ _
    rw [hal, List.length_map, hl]; exact Nat.le_refl _
  · rcases q with q | ⟨j, q⟩
    · exact (S.own ho).2.1 q
    · obtain ⟨o2, c2, h2⟩ := own j a q
      have := S.sd i j a ho o2
      subst this
      have hc : ρ[i]? = _ := hc
      rw [h2] at hc; cases hc
  · rcases x.mu a (.inr ⟨i, ho⟩) with q | q
    · exfalso
      rcases q with q | ⟨j, ⟨c2, hc2⟩, e⟩
      · obtain ⟨r, er⟩ := x.mp
        exact (S.own ho).2.1 (by rw [er]; exact List.mem_append_left _ q)
      · rcases hc2 with hc2 | hc2
        · exact (hg j).2.2.2.2 c2 hc2
        · obtain ⟨c3, h3⟩ := (hg j).2.2.2.1 c2 hc2
          obtain ⟨b, e1, e2, _⟩ := S.sl j _ h3
          have := map_some_get.mp e
          rw [e2] at this; cases this
          have := S.sd i j a ho ⟨⟨c3, .inr h3⟩, e1⟩
          subst this
          have hc : ρ[i]? = _ := hc
          rw [h3] at hc; cases hc
    · exact q
end
/-- a def of the text -/
theorem fn_of {P : Program} {w : World} {K : PySem.W.Frag} {mg : Str → Option Value} {base : Heap} {k : Nat} {f : Addr} {name qual : Str} {params : Arguments} {body : List Stmt} {scope : Scope} {dV kV doc pm cdv ct oc : Value} {an od : Option Addr}
    {osl : Array (Option Value)} {N ps : List Str} {G : Str → Addr} {b : M Fl} (lk : K.lookup f = some ⟨oc, od, .func (PySem.W.fnOf name qual params body scope dV kV doc pm an cdv ct), osl⟩) (hcd : PySem.W.codeIn K cdv qual = true) (Sc : FnScope N ps scope)
    (hbody : ∀ (A : Around) (outer : List Env) (s : Shared) (H : Hp) (vs : List V) (Ex : XK), A.guards = some [] → Room k (A.deeper (envOfC qual scope s.heap.objs.size f cdv)) →
      PSs (cxOf (L2.CX P w) P w K mg base N qual scope f cdv A outer s H Ex) body (LS ⟨K, G⟩ vs (fun c d _ H => Ex c d H) b)) :
    Fn P w K mg base (k + 1) f (PySem.W.fnOf name qual params body scope dV kV doc pm an cdv ct) ps (spD ⟨K, G⟩ ps.length (fnE N.length b)) := by
  refine ⟨fun vs H Q Ex h => h.1, fun A outer s H args us vs Q Ex hgd hr e0 hb r hsp => ?_⟩
  obtain ⟨hl, z0, hz, hzl, S0, hno, Ac⟩ := hsp
  subst hz
  have KX : K.In s.heap := e0.mod.kin.keeps fun b o e => (e0.bs b o e).1
  have lim : s.heap.NoLimit := e0.mod.nolimit.keeps fun b o e => (e0.bs b o e).1
  have hkind : ∀ y ∈ ps.zip us, scope.names.lookup y.1 = some .local ∨ (scope.names.lookup y.1 = some .cell ∧ ((cellsFrom (s.heap.objs.size + 1) scope.names []).lookup y.1).isSome = true) := fun ⟨n, v⟩ hy => by
    rcases Sc.par n (List.of_mem_zip hy).1 with q | q
    · exact .inl q
    · exact .inr ⟨q, PySem.W.cellsFrom_some _ _ _ (.inl q)⟩
  refine codeAny_call_function hr.depth (KX _ _ lk) rfl Sc.co Sc.gen rfl (PySem.W.codeRec_of KX hcd) (hb _ _ _ _ ?_)
  refine wpAny_newFunctionEnv_cells Sc.kind hkind fun env he s1 x => ?_
  subst he
  refine ⟨lim.keeps x.toInCall.keep, codeAny_func ?_⟩
  have I : Inv (cxOf (L2.CX P w) P w K mg base N qual scope f cdv A outer s z0.H Ex) [] (start N vs) z0.H s1 := inv_start Sc hr.hd e0 hl r x
  have hNl : vs.length ≤ N.length := by have := congrArg List.length Sc.pre; rw [List.length_take] at this; omega
  obtain ⟨S1, x1⟩ := fn_enter (N := N) S0 (by rw [hzl, hl]) hNl
  have hzl' : z0.ρ.length = vs.length := by rw [hzl, hl]
  have hfin : ∀ (rr : R Fl), b (z0.ρ ++ List.replicate (N.length - z0.ρ.length) .no) z0.s = rr → Acc ⟨K, G⟩ vs (fun c d _ H => Ex c d H) (vs.map some) z0 (erel ⟨K, G⟩ (vs.map some) z0.H) (finR z0.ρ rr) Q := fun rr h => by rw [← h]; exact Ac
  have hE : ∀ (e : E) (ρ : List Sl) (s' : List Cl) (σ' : L2.St) (F H : Hp) (m : List Addr) (v : V), Acc ⟨K, G⟩ vs (fun c d _ H => Ex c d H) (vs.map some) z0 (erel ⟨K, G⟩ (vs.map some) z0.H) (finE z0.ρ e ρ s') Q →
      EX (vs.map some) z0 σ' ⟨F, H, m, ρ, s'⟩ → SR ⟨K, G⟩ vs σ' ⟨F, H, m, ρ, s'⟩ → ER ⟨K, G⟩ σ' ⟨F, H, m, ρ, s'⟩ z0.H v e → Q v H := fun e ρ s' σ' F H m v A2 x S r => by
    cases hi : ioF z0.ρ ρ with
    | none => unfold finE at A2; rw [hi] at A2; exact A2.elim
    | some as' =>
      obtain ⟨S2, x2, mu2, ow⟩ := fn_leave S0 hzl' x S hi
      unfold finE at A2
      rw [hi] at A2
      cases e with
      | v d => exact A2 v F H m x2 S2 r
      | f c =>
        obtain ⟨a, rfl, h1, h2, h3, h4⟩ := r
        exact A2 (.ref a) F H m x2 S2 ⟨a, rfl, h1, fun q => h2 (mu2 a q), h3, h4.rho⟩
      | l i =>
        have A3 : Acc ⟨K, G⟩ vs (fun c d _ H => Ex c d H) (vs.map some) z0 (erel ⟨K, G⟩ (vs.map some) z0.H) (match ρ[i]? with | some (.own c) => .ok (.f c) as' s' | _ => .no) Q := A2
        have hv : σ'[i]? = some (some v) := r
        clear A2 hfin Ac
        cases hρ : ρ[i]? with
        | none => rw [hρ] at A3; exact A3.elim
        | some y =>
          rw [hρ] at A3
          cases y with
          | no => exact A3.elim
          | val d => exact A3.elim
          | io c => exact A3.elim
          | own c =>
            obtain ⟨a, e1, e2, e3, e4⟩ := S.sl i _ hρ
            rw [hv] at e1; cases e1
            obtain ⟨h1, h2⟩ := ow i c a hρ ⟨⟨c, .inl hρ⟩, hv⟩
            exact A3 (.ref a) F H m x2 S2 ⟨a, rfl, e2, h1, h2, e4.rho⟩
  have fin : ∀ {σ' : L2.St} {H' : Hp} {v : V} {u : Value} {s' : Shared}, Inv (cxOf (L2.CX P w) P w K mg base N qual scope f cdv A outer s z0.H Ex) [] σ' H' s' → RelV v u → Q v H' → CE outer P w z0.H s Q u s' :=
    fun {σ' H' v u s'} J rv q => ⟨v, H', J.os, J.bare, J.base, J.hok, rv, q⟩
  refine wpAny_mono ((hbody A outer s z0.H vs Ex hgd (hr.deeper _)).run [] s1 (start N vs) z0.H { nx := fun _ H' => Q .non H', rt := Q } I ⟨⟨z0.F, z0.H, z0.m, z0.ρ ++ List.replicate (N.length - z0.ρ.length) .no, z0.s⟩, rfl, S1, ?_⟩) (fun fl s' hs => ?_) fun e s' hs => hs
  · show AccS ⟨K, G⟩ vs _ _ _ (b (z0.ρ ++ List.replicate (N.length - z0.ρ.length) .no) z0.s) _
    cases hbr : b (z0.ρ ++ List.replicate (N.length - z0.ρ.length) .no) z0.s with
    | no => exact (hfin _ hbr).elim
    | ex c ns ds ρ s' =>
      intro σ' F H m d x S xr
      have A2 : Acc ⟨K, G⟩ vs (fun c d _ H => Ex c d H) (vs.map some) z0 (erel ⟨K, G⟩ (vs.map some) z0.H) (match ioF z0.ρ ρ with | some as' => .ex c ns ds as' s' | none => .no) Q := hfin _ hbr
      clear hfin Ac hE
      cases hi : ioF z0.ρ ρ with
      | none => rw [hi] at A2; exact A2.elim
      | some as' =>
        rw [hi] at A2
        obtain ⟨S2, x2, mu2, ow⟩ := fn_leave S0 hzl' (x1.trans S0 x) S hi
        refine A2 F H m d x2 S2 ?_
        rcases xr with h | ⟨dx, gv, e1, e2, e3, e4, e5, e6⟩
        · exact .inl h
        · exact .inr ⟨dx, gv, e1, e2, e3, e4, fun q => e5 (mu2 dx q), e6⟩
    | ok fl ρ s' =>
      intro σ' F H m x S
      have A2 := hfin _ hbr
      cases fl with
      | nx => exact hE (.v .non) ρ s' σ' F H m .non A2 (x1.trans S0 x) S (show ER _ _ _ _ _ _ from Rep.non)
      | rt e => exact fun v r => hE e ρ s' σ' F H m v A2 (x1.trans S0 x) S r
      | bk => exact A2.elim
      | ct => exact A2.elim
  · cases fl with
    | ret u =>
      obtain ⟨v, σ', H', J, rv, q⟩ := hs
      exact fin J rv q
    | next =>
      obtain ⟨σ', H', J, q⟩ := hs
      exact fin (v := V.non) (u := Value.none) J rfl q
    | brk =>
      obtain ⟨_, _, _, q⟩ := hs
      exact False.elim q
    | cont =>
      obtain ⟨_, _, _, q⟩ := hs
      exact False.elim q
end DL
set_option Elab.async false
set_option linter.all false
set_option maxRecDepth 100000
set_option maxHeartbeats 4000000
/-! DL14: comprehensions. -/
namespace DL
open PySem L2

/-! ### targets that touch the slots vs alone -/
def LGw (P : Par) (PV : List V) (W : WX) (vs : List Nat) (g : E → M Unit) : TG := fun v σ H Q => LG P PV W g v σ H fun σ' H' => wipe σ' vs = wipe σ vs → Q σ' H'
def LGsw (P : Par) (PV : List V) (W : WX) (vs : List Nat) (g : List D → M Unit) : TGs := fun v σ H Q => LGs P PV W g v σ H fun σ' H' => wipe σ' vs = wipe σ vs → Q σ' H'
theorem wipe_set {σ : L2.St} {i : Nat} {x : Option V} : ∀ {vs : List Nat}, i ∈ vs → wipe (σ.set i x) vs = wipe σ vs
  | [], h => by cases h
  | v :: vs, h => by
    show (wipe (σ.set i x) vs).set v none = (wipe σ vs).set v none
    by_cases q : i ∈ vs
    · rw [wipe_set q]
    · have e : i = v := by
        rcases List.mem_cons.mp h with e | e
        · exact e
        · exact absurd e q
      subst e
      have : ∀ (us : List Nat), i ∉ us → wipe (σ.set i x) us = (wipe σ us).set i x := by
        intro us
        induction us with
        | nil => intro _; rfl
        | cons u us ih =>
          intro hu
          show (wipe (σ.set i x) us).set u none = ((wipe σ us).set u none).set i x
          rw [ih (fun z => hu (List.mem_cons_of_mem _ z)), List.set_comm]
          intro e; exact hu (by rw [e]; exact List.mem_cons_self)
      rw [this vs q, List.set_set]
theorem wipe_out {σ : L2.St} {i : Nat} : ∀ {vs : List Nat}, i ∉ vs → (wipe σ vs)[i]? = σ[i]?
  | [], _ => rfl
  | v :: vs, h => by
    show ((wipe σ vs).set v none)[i]? = _
    rw [List.getElem?_set_ne (fun e => h (by rw [e]; exact List.mem_cons_self))]
    exact wipe_out fun z => h (List.mem_cons_of_mem _ z)
section
variable {X : Cx} {P : Par} {G : Str → Addr} {PV : List V} {W : WX} {tg : Expr} {tgs es : List Expr} {g : E → M Unit} {gs : List D → M Unit} {vs : List Nat} {pos : Pos}
theorem put_imp {i : Nat} {v : V} {σ : L2.St} {H : Hp} {Q : L2.St → Hp → Prop} : LG P PV W (put i) v σ H Q → Q (σ.set i (some v)) H := fun ⟨σ0, z0, z, e, hz, S0, x, S, r, A⟩ => by
  subst hz
  cases hp : put i e z.ρ z.s with
  | no => rw [hp] at A; exact A.elim
  | ex c ns vs ρ s => exact (put_no hp).elim
  | ok u ρ s =>
    rw [hp] at A
    obtain ⟨rfl, h1, h2⟩ := put_ok S0 x S r hp
    exact A _ z.F z.H z.m h2 h1
theorem lgw_put {i : Nat} (h : PG X tg (gName i)) (hi : i ∈ vs) : PG X tg (LGw P PV W vs (put i)) := PGi h fun v σ H Q q => put_imp q (wipe_set hi)
theorem lg_of (h : PG X tg (LGw P PV W vs g)) : PG X tg (LG P PV W g) := PGi h fun v σ H Q ⟨σ0, z0, z, e, hz, S0, x, S, r, A⟩ => ⟨σ0, z0, z, e, hz, S0, x, S, r, by
  cases hg : g e z.ρ z.s with
  | no => rw [hg] at A; exact A
  | ex c ns vs ρ s => rw [hg] at A; exact A
  | ok u ρ s => rw [hg] at A; exact fun σ' F H m x S _ => A σ' F H m x S⟩
theorem lgsw_nil : PGs X [] (LGsw P PV W vs unNil) := PGsi pgs_nil fun us σ H Q ⟨σ0, z0, z, ds, hz, S0, x, S, r, A⟩ => by
  subst hz
  cases r with
  | nil => exact ⟨rfl, A σ z.F z.H z.m x S rfl⟩
  | cons a b => exact A.elim
theorem lgsw_cons (h1 : PG X tg (LGw P PV W vs g)) (h2 : PGs X tgs (LGsw P PV W vs gs)) (hs : (assignEach (tg :: tgs) X.env).map (·.2) = assign tg X.env :: (assignEach tgs X.env).map (·.2) := by rfl) : PGs X (tg :: tgs) (LGsw P PV W vs (unCons g gs)) :=
  PGsi (pgs_cons h1 h2 hs) fun us σ H Q ⟨σ0, z0, z, ds, hz, S0, x, S, r, A⟩ => by
    subst hz
    cases r with
    | nil => exact A.elim
    | @cons v d us ds rv rl =>
      refine ⟨v, us, rfl, σ, z, z, .v d, rfl, S, EX.refl, S, rv, ?_⟩
      have A := A.later S0 x
      have A' : AccU P PV W σ z (M.bind (g (.v d)) (fun _ => gs ds) z.ρ z.s) (fun σ' H' => wipe σ' vs = wipe σ vs → Q σ' H') := A
      unfold M.bind at A'
      cases hg : g (.v d) z.ρ z.s with
      | no => rw [hg] at A'; exact A'
      | ex c ns vs ρ s => rw [hg] at A'; exact A'
      | ok u ρ s =>
        rw [hg] at A'
        intro σ' F H' m x' S' hw
        refine ⟨σ', ⟨F, H', m, ρ, s⟩, ⟨F, H', m, ρ, s⟩, ds, rfl, S', EX.refl, S', x'.repL rl, ?_⟩
        have A2 := A'.later S x'
        show AccU P PV W σ' ⟨F, H', m, ρ, s⟩ (gs ds ρ s) _
        have A2 : AccU P PV W σ' ⟨F, H', m, ρ, s⟩ (gs ds ρ s) (fun σ' H' => wipe σ' vs = wipe σ vs → Q σ' H') := A2
        rw [hw]
        exact A2
theorem lgw_un {k n : Nat} (hc : X.calm = true) (h : PGs X es (LGsw (pk X G) PV W vs gs)) (hn : (assignEach es X.env).length = n := by rfl) (hst : (assignEach es X.env).findIdx? (·.1) = none := by rfl) : PG X (.Tuple es k pos) (LGw (pk X G) PV W vs (unTup n gs)) :=
  PGi (pg_seq hc h hn hst) fun v σ H Q ⟨σ0, z0, z, e, hz, S0, x, S, r, A⟩ => by
    subst hz
    have other : AccU (pk X G) PV W σ0 z0 (match con e z.ρ z.s with | some (.lst ds) => if ds.length = n then gs ds z.ρ z.s else .no | _ => .no) (fun σ' H' => wipe σ' vs = wipe σ vs → Q σ' H') → gLst X.K n (LGsw (pk X G) PV W vs gs) v σ z.H Q := fun A => by
      split at A
      · rename_i ds hc
        split at A
        · rename_i hl
          obtain ⟨a, rfl, vs, h1, l⟩ := con_ok S r hc
          exact ⟨a, vs, rfl, SqL.of h1, by rw [l.length]; exact hl, σ0, z0, z, ds, rfl, S0, x, S, l, A⟩
        · exact A.elim
      · exact A.elim
    cases e with
    | l i => exact .inr (other A)
    | f c => exact .inr (other A)
    | v d =>
      cases d with
      | tup ds =>
        have A' : AccU (pk X G) PV W σ0 z0 (if ds.length = n then gs ds z.ρ z.s else .no) (fun σ' H' => wipe σ' vs = wipe σ vs → Q σ' H') := A
        split at A'
        · rename_i hl
          obtain ⟨a, vs, rfl, h1, l, _⟩ := r.tup S
          exact .inl ⟨a, vs, rfl, h1, by rw [l.length]; exact hl, σ0, z0, z, ds, rfl, S0, x, S, l, A'⟩
        · exact A'.elim
      | _ => exact .inr (other A)
end

/-! ### a block's slots -/
def clr : List Nat → List Sl → List Sl
  | [], ρ => ρ
  | v :: vs, ρ => (clr vs ρ).set v .no
def clrM (vs : List Nat) : M Unit := fun ρ s => .ok () (clr vs ρ) s
/-- the values that stood in vs, back in their slots -/
def resto (ρ0 : List Sl) : List Nat → List Sl → List Sl
  | [], ρ => ρ
  | v :: vs, ρ => (resto ρ0 vs ρ).set v (match ρ0[v]? with | some (.val d) => .val d | _ => .no)
theorem clr_length : ∀ (vs : List Nat) (ρ : List Sl), (clr vs ρ).length = ρ.length
  | [], _ => rfl
  | v :: vs, ρ => by unfold clr; rw [List.length_set, clr_length vs ρ]
theorem clr_get {i : Nat} {ρ : List Sl} {x : Sl} : ∀ {vs : List Nat}, (clr vs ρ)[i]? = some x → x = .no ∨ (i ∉ vs ∧ ρ[i]? = some x)
  | [], h => .inr ⟨by simp, h⟩
  | v :: vs, h => by
    unfold clr at h
    by_cases e : v = i
    · subst e
      by_cases hl : v < (clr vs ρ).length
      · rw [List.getElem?_set_self hl] at h; exact .inl (Option.some.inj h).symm
      · rw [List.getElem?_eq_none (by simpa using hl)] at h; cases h
    · rw [List.getElem?_set_ne e] at h
      rcases clr_get h with q | ⟨q1, q2⟩
      · exact .inl q
      · exact .inr ⟨by simp only [List.mem_cons, not_or]; exact ⟨fun z => e z.symm, q1⟩, q2⟩
theorem resto_length {ρ0 : List Sl} : ∀ (vs : List Nat) (ρ : List Sl), (resto ρ0 vs ρ).length = ρ.length
  | [], _ => rfl
  | v :: vs, ρ => by unfold resto; rw [List.length_set, resto_length vs ρ]
theorem resto_get {i : Nat} {ρ0 ρ : List Sl} {x : Sl} : ∀ {vs : List Nat}, (resto ρ0 vs ρ)[i]? = some x → x = .no ∨ (∃ d, x = .val d ∧ ρ0[i]? = some (.val d)) ∨ (i ∉ vs ∧ ρ[i]? = some x)
  | [], h => .inr (.inr ⟨by simp, h⟩)
  | v :: vs, h => by
    unfold resto at h
    by_cases e : v = i
    · subst e
      by_cases hl : v < (resto ρ0 vs ρ).length
      · rw [List.getElem?_set_self hl] at h
        have h := Option.some.inj h
        cases q : ρ0[v]? with
        | none => rw [q] at h; exact .inl h.symm
        | some y =>
          rw [q] at h
          cases y with
          | val d => exact .inr (.inl ⟨d, h.symm, rfl⟩)
          | no => exact .inl h.symm
          | own c => exact .inl h.symm
          | io c => exact .inl h.symm
      · rw [List.getElem?_eq_none (by simpa using hl)] at h; cases h
    · rw [List.getElem?_set_ne e] at h
      rcases resto_get h with q | q | ⟨q1, q2⟩
      · exact .inl q
      · exact .inr (.inl q)
      · exact .inr (.inr ⟨by simp only [List.mem_cons, not_or]; exact ⟨fun z => e z.symm, q1⟩, q2⟩)
section
variable {P : Par} {PV : List V} {σ : L2.St} {z z1 : Z} {vs : List Nat} {a : Addr} {o : HO}
theorem wipe_own {i : Nat} (h : OwnAt (wipe σ vs) { z with ρ := clr vs z.ρ } i a) : OwnAt σ z i a := by
  obtain ⟨⟨c, hc⟩, e⟩ := h
  have e := (wipe_some e).1
  rcases hc with hc | hc
  · rcases clr_get hc with q | ⟨_, q⟩
    · cases q
    · exact ⟨⟨c, .inl q⟩, e⟩
  · rcases clr_get hc with q | ⟨_, q⟩
    · cases q
    · exact ⟨⟨c, .inr q⟩, e⟩
theorem wipe_mu (h : Mu (wipe σ vs) { z with ρ := clr vs z.ρ } a) : Mu σ z a := h.elim .inl fun ⟨i, h⟩ => .inr ⟨i, wipe_own h⟩
theorem SR.wipe (S : SR P PV σ z) : SR P PV (wipe σ vs) { z with ρ := clr vs z.ρ } := by
  refine ⟨S.fz, S.len, S.nd, fun n b c h1 h2 => ⟨(S.cl n b c h1 h2).1, (S.cl n b c h1 h2).2.rho⟩, fun i x h => ?_, fun i j b h1 h2 => S.sd i j b (wipe_own h1) (wipe_own h2), by show (clr vs z.ρ).length ≤ _; rw [clr_length, wipe_length]; exact S.ln⟩
  rcases clr_get h with q | ⟨hn, q⟩
  · subst q; trivial
  · have r := S.sl i x q
    rw [wipe_out hn]
    cases x with
    | no => trivial
    | val d => exact r
    | own c => obtain ⟨b, e1, e2, e3, e4⟩ := r; exact ⟨b, e1, e2, e3, e4.rho⟩
    | io c => obtain ⟨b, e1, e0, e2, e3, e4⟩ := r; exact ⟨b, e1, e0, e2, e3, e4.rho⟩
theorem EX.toWipe {z' : Z} {σ1 : L2.St} (x : EX σ z σ1 z') : EX σ z (wipe σ1 vs) { z' with ρ := clr vs z'.ρ } := ⟨x.fs, x.mp, x.oth, x.nw, x.kp, fun a h => x.mu a (wipe_mu h)⟩
/-- a thing that is nobody's is written -/
theorem CR.poke {b : Addr} {c : Cl} (h : CR P z b c) (hne : b ≠ a) : CR P { z with H := upd z.H a o } b c := by
  have e : upd z.H a o b = z.H b := upd_ne hne
  cases c with
  | lst ds => obtain ⟨vs, e1, e2⟩ := h; exact ⟨vs, e.trans e1, e2⟩
  | dk ks ds => obtain ⟨vs, e0, e1, e2⟩ := h; exact ⟨vs, e0, e.trans e1, e2⟩
  | dt ks ds => obtain ⟨vs, e0, e1, e2⟩ := h; exact ⟨vs, e0, e.trans e1, e2⟩
  | ins n ns ds => obtain ⟨dx, vs, e0, e1, e2⟩ := h; exact ⟨dx, vs, e0, e.trans e1, e2⟩
theorem SR.poke (S : SR P PV σ z) (hf : z.F a = none) (hm : ¬ Mu σ z a) : SR P PV σ { z with H := upd z.H a o } := by
  refine ⟨fun b u h => ?_, S.len, S.nd, fun n b c h1 h2 => ⟨(S.cl n b c h1 h2).1, (S.cl n b c h1 h2).2.poke fun e => hm (.inl (by rw [← e]; exact List.mem_of_getElem? h1))⟩, fun i x h => ?_, S.sd, S.ln⟩
  · have hne : b ≠ a := fun e => by subst e; have h : z.F b = some u := h; rw [hf] at h; cases h
    show Lk (upd z.H a o b) u
    rw [upd_ne hne]
    exact S.fz b u h
  · have r := S.sl i x h
    cases x with
    | no => trivial
    | val d => exact r
    | own c =>
      obtain ⟨b, e1, e2, e3, e4⟩ := r
      exact ⟨b, e1, e2, e3, e4.poke fun e => hm (by subst e; exact .inr ⟨i, ⟨c, .inl h⟩, e1⟩)⟩
    | io c =>
      obtain ⟨b, e1, e0, e2, e3, e4⟩ := r
      exact ⟨b, e1, e0, e2, e3, e4.poke fun e => hm (by subst e; exact .inr ⟨i, ⟨c, .inr h⟩, e1⟩)⟩
theorem EX.poke {σ0 : L2.St} {z0 : Z} (x : EX σ0 z0 σ z) (hn : z0.H a = none) : EX σ0 z0 σ { z with H := upd z.H a o } :=
  ⟨x.fs, x.mp, fun b u h nm nf => by
    have hne : b ≠ a := fun e => by subst e; rw [hn] at h; cases h
    show upd z.H a o b = _
    rw [upd_ne hne]; exact x.oth b u h nm nf, x.nw, fun b u h => by
    by_cases e : b = a
    · subst e; exact ⟨o, upd_same⟩
    · show ∃ o', upd z.H a o b = _
      rw [upd_ne e]; exact x.kp b u h, x.mu⟩
/-- back from the block -/
theorem SR.unwipe {z0 : Z} (S0 : SR P PV σ z0) (fs : ∀ a o, z0.F a = some o → z.F a = some o) (mp : ∃ r, z.m = z0.m ++ r) (S : SR P PV (L2.wipe σ vs) z) : SR P PV σ { z with ρ := resto z0.ρ vs z.ρ } ∧ ∀ a, Mu σ { z with ρ := resto z0.ρ vs z.ρ } a → Mu (L2.wipe σ vs) z a := by
  have own : ∀ i a, OwnAt σ { z with ρ := resto z0.ρ vs z.ρ } i a → OwnAt (L2.wipe σ vs) z i a := fun i a ⟨⟨c, hc⟩, e⟩ => by
    rcases hc with hc | hc
    · rcases resto_get hc with q | ⟨d, q, _⟩ | ⟨hn, q⟩
      · cases q
      · cases q
      · exact ⟨⟨c, .inl q⟩, by rw [wipe_out hn]; exact e⟩
    · rcases resto_get hc with q | ⟨d, q, _⟩ | ⟨hn, q⟩
      · cases q
      · cases q
      · exact ⟨⟨c, .inr q⟩, by rw [wipe_out hn]; exact e⟩
  refine ⟨⟨S.fz, S.len, S.nd, fun n b c h1 h2 => ⟨(S.cl n b c h1 h2).1, (S.cl n b c h1 h2).2.rho⟩, fun i x h => ?_, fun i j b h1 h2 => S.sd i j b (own i b h1) (own j b h2), by show (resto z0.ρ vs z.ρ).length ≤ _; rw [resto_length]; have := S.ln; rw [wipe_length] at this; exact this⟩, fun a h => h.elim .inl fun ⟨i, h⟩ => .inr ⟨i, own i a h⟩⟩
  rcases resto_get h with q | ⟨d, rfl, q⟩ | ⟨hn, q⟩
  · subst q; trivial
  · obtain ⟨v, e1, e2⟩ := S0.sl i _ q
    exact ⟨v, e1, e2.mono fs mp⟩
  · have r := S.sl i x q
    rw [wipe_out hn] at r
    cases x with
    | no => trivial
    | val d => exact r
    | own c => obtain ⟨b, e1, e2, e3, e4⟩ := r; exact ⟨b, e1, e2, e3, e4.rho⟩
    | io c => obtain ⟨b, e1, e0, e2, e3, e4⟩ := r; exact ⟨b, e1, e0, e2, e3, e4.rho⟩
end
end DL
set_option Elab.async false
set_option linter.all false
set_option maxRecDepth 100000
set_option maxHeartbeats 4000000
/-! DL15: list and dict comprehensions. -/
namespace DL
open PySem L2

abbrev W0 : WX := fun _ _ _ _ => False
def lcD (vs : List Nat) (g : E → M Unit) (t : M Bool) (e : M D) : List D → List D → M (List D)
  | [], acc => M.pure acc
  | d :: ds, acc => M.bind (g (.v d)) fun _ => M.bind t fun b => if b = true then M.bind e fun y => M.bind (clrM vs) fun _ => (if acc.length < sizeLine then lcD vs g t e ds (acc ++ [y]) else M.no)
    else M.bind (clrM vs) fun _ => lcD vs g t e ds acc
def lcR {α : Type} (vs : List Nat) (ρ0 : List Sl) (f : α → Cl) : R α → R E
  | .ok acc ρ s => .ok (.f (f acc)) (resto ρ0 vs ρ) s
  | _ => .no
def eLc (vs : List Nat) (fi : M (List D)) (g : E → M Unit) (t : M Bool) (e : M D) : M E := M.bind fi fun xs ρ s => lcR vs ρ Cl.lst (M.bind (clrM vs) (fun _ => lcD vs g t e xs []) ρ s)
section
variable {P : Par} {PV : List V} {W : WX} {σ σ' : L2.St} {z0 z : Z} {vs : List Nat} {ρ0 : List Sl} {α β γ : Type} {F : γ → Cl} {Q : VK}
/-- a part of a block's turn -/
theorem sub_ok {rel : Z → β → α → Prop} {Q' : β → Hp → Prop} {f : M α} {k : α → M γ} (A : Acc P PV W σ z0 (erel P σ z0.H) (lcR vs ρ0 F (M.bind f k z.ρ z.s)) Q)
    (hk : ∀ b Fh H m x ρ s, EX σ' z σ' ⟨Fh, H, m, ρ, s⟩ → SR P PV σ' ⟨Fh, H, m, ρ, s⟩ → rel ⟨Fh, H, m, ρ, s⟩ b x → Acc P PV W σ z0 (erel P σ z0.H) (lcR vs ρ0 F (k x ρ s)) Q → Q' b H) : Acc P PV W0 σ' z rel (f z.ρ z.s) Q' := by
  rw [bind_eq] at A
  cases hf : f z.ρ z.s with
  | no => rw [hf] at A; exact A.elim
  | ex c ns vs ρ s => rw [hf] at A; exact A.elim
  | ok x ρ s => rw [hf] at A; exact fun b Fh H m e S r => hk b Fh H m x ρ s e S r A
theorem subU_ok {Q' : L2.St → Hp → Prop} {f : M Unit} {k : Unit → M γ} (A : Acc P PV W σ z0 (erel P σ z0.H) (lcR vs ρ0 F (M.bind f k z.ρ z.s)) Q)
    (hk : ∀ σ2 Fh H m ρ s, EX σ' z σ2 ⟨Fh, H, m, ρ, s⟩ → SR P PV σ2 ⟨Fh, H, m, ρ, s⟩ → Acc P PV W σ z0 (erel P σ z0.H) (lcR vs ρ0 F (k () ρ s)) Q → Q' σ2 H) : AccU P PV W0 σ' z (f z.ρ z.s) Q' := by
  rw [bind_eq] at A
  cases hf : f z.ρ z.s with
  | no => rw [hf] at A; exact A.elim
  | ex c ns vs ρ s => rw [hf] at A; exact A.elim
  | ok x ρ s => rw [hf] at A; exact fun σ2 Fh H m e S => hk σ2 Fh H m ρ s e S A
theorem EX.wipe_trans {σ2 : L2.St} {z1 z2 : Z} {w : L2.St} (S : SR P PV w z1) (x : EX w z1 σ2 z2) (hw : L2.wipe σ2 vs = w) : EX w z1 w { z2 with ρ := clr vs z2.ρ } := by
  have h := EX.toWipe (vs := vs) x
  rw [hw] at h
  exact h
end
theorem wipe_in {σ : L2.St} {i : Nat} : ∀ {vs : List Nat}, i ∈ vs → (L2.wipe σ vs)[i]? = none ∨ (L2.wipe σ vs)[i]? = some none
  | [], h => by cases h
  | v :: vs, h => by
    show ((L2.wipe σ vs).set v none)[i]? = none ∨ ((L2.wipe σ vs).set v none)[i]? = some none
    by_cases e : v = i
    · subst e
      by_cases hl : v < (L2.wipe σ vs).length
      · exact .inr (List.getElem?_set_self hl)
      · exact .inl (List.getElem?_eq_none (by simpa using hl))
    · rw [List.getElem?_set_ne e]
      exact wipe_in ((List.mem_cons.mp h).elim (fun q => absurd q.symm e) id)
theorem wipe_same {τ : L2.St} : ∀ {us : List Nat}, (∀ i ∈ us, τ[i]? = none ∨ τ[i]? = some none) → L2.wipe τ us = τ
  | [], _ => rfl
  | u :: us, h => by
    show (L2.wipe τ us).set u none = τ
    rw [wipe_same fun i hi => h i (List.mem_cons_of_mem _ hi)]
    rcases h u List.mem_cons_self with q | q
    · exact List.set_eq_of_length_le (List.getElem?_eq_none_iff.mp q)
    · apply List.ext_getElem?
      intro j
      by_cases e : u = j
      · subst e
        rw [List.getElem?_set_self (List.getElem?_eq_some_iff.mp q).1, q]
      · rw [List.getElem?_set_ne e]
theorem wipe_wipe {σ : L2.St} {vs : List Nat} : L2.wipe (L2.wipe σ vs) vs = L2.wipe σ vs := wipe_same fun i hi => wipe_in hi
theorem lie_bind {P : Par} {PV : List V} {W : WX} {σ : L2.St} {H : Hp} {Q : VK} {fi : M (List D)} {k : List DL.D → M E} {Q1 : It → Hp → Prop} (h : ∃ z : Z, z.H = H ∧ SR P PV σ z ∧ Acc P PV W σ z (erel P σ H) (M.bind fi k z.ρ z.s) Q)
    (hk : ∀ z1 J xs, SR P PV σ z1 → WalkD P PV J xs z1.F z1.m → Acc P PV W σ z1 (erel P σ z1.H) (k xs z1.ρ z1.s) Q → Q1 J z1.H) : LI P PV W fi σ H Q1 := by
  obtain ⟨z, rfl, S, A⟩ := h
  refine ⟨z, rfl, S, ?_⟩
  unfold M.bind at A
  cases hf : fi z.ρ z.s with
  | no => rw [hf] at A; exact A.elim
  | ex c ns vs ρ s => rw [hf] at A; exact A
  | ok e ρ s =>
    rw [hf] at A
    intro v F H1 m x S1 r
    exact hk ⟨F, H1, m, ρ, s⟩ v e S1 r (A.later S x fun z2 b y _ q => erel_org (fun a ha => x.kn ha) q)
/-- the state in a block's turns: the new thing D beside -/
structure Blk (P : Par) (PV : List V) (σ : L2.St) (vs : List Nat) (z1 : Z) (D : Addr) (c : Cl) (z : Z) : Prop where
  sr : SR P PV (L2.wipe σ vs) z
  ex : EX (L2.wipe σ vs) { z1 with ρ := clr vs z1.ρ } (L2.wipe σ vs) z
  hf : z.F D = none
  hm : ¬ Mu (L2.wipe σ vs) z D
  hc : CR P z D c
section
variable {P : Par} {PV : List V} {W : WX} {σ σ' : L2.St} {z0 z z1 : Z} {vs : List Nat} {D : Addr} {c : Cl} {Q : VK}
theorem Blk.start {o : HO} (S1 : SR P PV σ z1) (hD : z1.H D = none) (hc : CR P { z1 with H := upd z1.H D o } D c) : Blk P PV σ vs z1 D c ⟨z1.F, upd z1.H D o, z1.m, clr vs z1.ρ, z1.s⟩ := by
  have S2 := S1.wipe (vs := vs)
  have nm : ¬ Mu (L2.wipe σ vs) { z1 with ρ := clr vs z1.ρ } D := fun q => by
    obtain ⟨u, e⟩ := S1.mu_there (wipe_mu q)
    rw [hD] at e; cases e
  exact ⟨S2.poke (S1.fno hD) nm, EX.refl.poke hD, S1.fno hD, nm, hc.rho⟩
/-- a part of a turn -/
theorem Blk.step (B : Blk P PV σ vs z1 D c z) (S1 : SR P PV σ z1) {σ2 : L2.St} {z2 : Z} (x : EX (L2.wipe σ vs) z σ2 z2) (S2 : SR P PV σ2 z2) (hw : L2.wipe σ2 vs = L2.wipe σ vs) : Blk P PV σ vs z1 D c { z2 with ρ := clr vs z2.ρ } ∧ z2.F D = none ∧ ¬ Mu σ2 z2 D ∧ CR P z2 D c := by
  obtain ⟨h1, h2, h3⟩ := EX.loose B.sr x B.hf B.hm B.hc
  refine ⟨⟨?_, (B.ex).trans S1.wipe (EX.wipe_trans B.sr x hw), h1, fun q => ?_, h3.rho⟩, h1, h2, h3⟩
  · have := S2.wipe (vs := vs)
    rw [hw] at this
    exact this
  · rw [← hw] at q
    exact h2 (wipe_mu q)
/-- the new thing changed -/
theorem Blk.write (B : Blk P PV σ vs z1 D c z) (hD : z1.H D = none) {o : HO} {c' : Cl} (hc : CR P { z with H := upd z.H D o } D c') : Blk P PV σ vs z1 D c' { z with H := upd z.H D o } :=
  ⟨B.sr.poke B.hf B.hm, B.ex.poke hD, B.hf, B.hm, hc⟩
/-- the block's end -/
theorem Blk.done (B : Blk P PV σ vs z1 D c z) (S1 : SR P PV σ z1) (hD : z1.H D = none) (A : Acc P PV W σ z1 (erel P σ z1.H) (.ok (.f c) (resto z1.ρ vs z.ρ) z.s) Q) : Q (.ref D) z.H := by
  obtain ⟨S2, hmu⟩ := SR.unwipe (vs := vs) S1 B.ex.fs B.ex.mp B.sr
  refine A (.ref D) z.F z.H z.m ⟨B.ex.fs, B.ex.mp, fun a o h nm nf => B.ex.oth a o h (fun q => nm (wipe_mu q)) nf, fun a o h => ?_, B.ex.kp, fun a h => ?_⟩ S2 ⟨D, rfl, B.hf, fun q => B.hm (hmu D q), hD, B.hc.rho⟩
  · rcases B.ex.nw a o h with q | q | q
    · exact .inl q
    · exact .inr (.inl q)
    · exact .inr (.inr (wipe_mu q))
  · rcases B.ex.mu a (hmu a h) with q | q
    · exact .inl (wipe_mu q)
    · exact .inr q
end
theorem sl_get {z : Z} {P : Par} {D : Addr} {ds : List DL.D} (h : CR P z D (.lst ds)) : ∃ vs, z.H D = some (.lst vs) ∧ RepL P z.F z.m vs ds := h
section
variable {X : Cx} {G : Str → Addr} {PV : List V} {W : WX} {elt tg iter : Expr} {ifs : List Expr} {scope : Scope} {own : List (Str × Nat)} {pos : Pos} {fi : M (List D)} {g : E → M Unit} {t : M Bool} {e : M D}
def tYesD : M Bool := M.pure true
theorem dts_nil {X : Cx} {P : Par} : PTs X [] (LT P PV W0 tYesD) := ⟨fun pins s σ H Q I ⟨z, e, S, A⟩ => pts_nil.run pins s σ H Q I (by subst e; exact A true z.F z.H z.m EX.refl S rfl)⟩
theorem dts_one {X : Cx} {P : Par} {c : Expr} {t : M Bool} (h : PT X c (LT P PV W0 t)) : PTs X [c] (LT P PV W0 t) := pts_one h
theorem lc_imp {P : Par} {vs : List Nat} : ∀ σ H Q, LE P PV W (eLc vs fi g t e) σ H Q → tLc (LI P PV W fi) (LGw P PV W0 vs g) (LT P PV W0 t) (LD P PV W0 e) vs σ H Q :=
  fun σ H Q h => lie_bind h fun z1 J xs S1 w A => fun D hD => by
    refine ⟨fun i m H => i ≤ xs.length ∧ m = xs.length - i ∧ ∃ (z : Z) (acc : List DL.D), z.H = H ∧ Blk P PV σ vs z1 D (.lst acc) z ∧ Acc P PV W σ z1 (erel P σ z1.H) (lcR vs z1.ρ Cl.lst (lcD vs g t e (xs.drop i) acc z.ρ z.s)) Q,
      ⟨xs.length, Nat.zero_le _, rfl, _, [], rfl, Blk.start S1 hD ⟨[], upd_same, .nil⟩, A⟩, ?_⟩
    rintro i m H ⟨hi, rfl, z, acc, rfl, B, A⟩
    obtain ⟨w1, w2⟩ := w i _ z B.sr B.ex.fs B.ex.mp
    by_cases hl : i < xs.length
    · refine .inr ⟨(w1 hl).1, fun H' => ∃ (z : Z) (acc : List DL.D), z.H = H' ∧ Blk P PV σ vs z1 D (.lst acc) z ∧ Acc P PV W σ z1 (erel P σ z1.H) (lcR vs z1.ρ Cl.lst (lcD vs g t e (xs.drop (i + 1)) acc z.ρ z.s)) Q, fun H' h => ⟨xs.length - (i + 1), by omega, by omega, rfl, h⟩, fun x H' hy => ?_⟩
      obtain ⟨F', x1, S', d, hd, r⟩ := (w1 hl).2 x H' hy
      have hdr : xs.drop i = d :: xs.drop (i + 1) := by
        rw [List.drop_eq_getElem_cons hl]
        have : xs[i] = d := by rw [List.getElem?_eq_getElem hl] at hd; exact Option.some.inj hd
        rw [this]
      rw [hdr] at A
      refine ⟨_, ⟨F', H', z.m, z.ρ, z.s⟩, ⟨F', H', z.m, z.ρ, z.s⟩, .v d, rfl, S', EX.refl, S', r, subU_ok (z := ⟨F', H', z.m, z.ρ, z.s⟩) A fun σ2 F2 H2 m2 ρ2 s2 x2 S2 A2 hw => ⟨hw.trans wipe_wipe, ⟨F2, H2, m2, ρ2, s2⟩, rfl, S2, sub_ok (z := ⟨F2, H2, m2, ρ2, s2⟩) A2 fun b F3 H3 m3 b' ρ3 s3 x3 S3 rb A3 => ?_⟩⟩
      have rb : b = b' := rb
      have hw := hw.trans wipe_wipe
      subst rb
      have x13 := (x1.trans B.sr x2).trans B.sr x3
      cases b with
      | false =>
        rw [if_neg Bool.false_ne_true]
        rw [if_neg Bool.false_ne_true] at A3
        have B3 := (B.step S1 x13 S3 hw).1
        exact ⟨_, acc, rfl, B3, A3⟩
      | true =>
        rw [if_pos rfl]
        rw [if_pos rfl] at A3
        refine ⟨⟨F3, H3, m3, ρ3, s3⟩, rfl, S3, sub_ok (z := ⟨F3, H3, m3, ρ3, s3⟩) A3 fun y F4 H4 m4 dy ρ4 s4 x4 S4 ry A4 => ?_⟩
        obtain ⟨B4, hf4, hm4, hc4⟩ := B.step S1 (x13.trans B.sr x4) S4 hw
        obtain ⟨us, hD4, l4⟩ := hc4
        have hlen := l4.length
        have A5 : Acc P PV W σ z1 (erel P σ z1.H) (lcR vs z1.ρ Cl.lst ((if acc.length < sizeLine then lcD vs g t e (xs.drop (i + 1)) (acc ++ [dy]) else M.no) (clr vs ρ4) s4)) Q := A4
        by_cases hz : acc.length < sizeLine
        · rw [if_pos hz] at A5
          exact ⟨us, hD4, by omega, _, acc ++ [dy], rfl, B4.write hD ⟨us ++ [y], upd_same, l4.snoc ry⟩, A5⟩
        · rw [if_neg hz] at A5; exact A5.elim
    · have hl : xs.length ≤ i := Nat.le_of_not_lt hl
      refine .inl ⟨w2 (Nat.le_antisymm hi hl), ?_⟩
      rw [List.drop_eq_nil_of_le hl] at A
      exact B.done S1 hD A
theorem de_lc (hc : X.calm = true) (hN : X.N.Nodup) (hi : PI X tg iter (LI (pk X G) PV W fi)) (ok : BlkOk X.N X.env.scope scope own)
    (hg : ∀ (s : Shared) (H : Hp) (C : Addr) (cl : List (Str × Addr)) (fp : List Addr), PG (X.blk s H scope (compEnvC scope cl C X.env) fp) tg (LGw (pk X G) PV W0 (own.map (·.2)) g)) (ht : ∀ (s : Shared) (H : Hp) (C : Addr) (cl : List (Str × Addr)) (fp : List Addr), PTs (X.blk s H scope (compEnvC scope cl C X.env) fp) ifs (LT (pk X G) PV W0 t))
    (he : ∀ (s : Shared) (H : Hp) (C : Addr) (cl : List (Str × Addr)) (fp : List Addr), PE (X.blk s H scope (compEnvC scope cl C X.env) fp) elt (LD (pk X G) PV W0 e)) (hs : ∀ x, foldedSetIterable iter X.env x = pure x := by intro _; rfl) :
    PE X (.ListComp elt [⟨tg, iter, ifs, 0⟩] scope pos) (LE (pk X G) PV W (eLc (own.map (·.2)) fi g t e)) :=
  PEi (pe_lc hc hN hi ok hg ht he hs) lc_imp
theorem ds_setLc {i : Nat} {y : Str} {py spos : Pos} (hc : X.calm = true) (hN : X.N.Nodup) (hy : X.N[i]? = some y) (hyl : X.env.scope.names.lookup y = some .local)
    (hsw : swapsWith (.ListComp elt [⟨tg, iter, ifs, 0⟩] scope pos) (some (.Name y py)) spos.line X.env = pure true) (hi : PI X tg iter (LI (pk X G) PV W fi)) (ok : BlkOk X.N X.env.scope scope own)
    (hg : ∀ (s : Shared) (H : Hp) (C : Addr) (cl : List (Str × Addr)) (fp : List Addr), PG (X.blk s H scope (compEnvC scope cl C X.env) fp) tg (LGw (pk X G) PV W0 (own.map (·.2)) g)) (ht : ∀ (s : Shared) (H : Hp) (C : Addr) (cl : List (Str × Addr)) (fp : List Addr), PTs (X.blk s H scope (compEnvC scope cl C X.env) fp) ifs (LT (pk X G) PV W0 t))
    (he : ∀ (s : Shared) (H : Hp) (C : Addr) (cl : List (Str × Addr)) (fp : List Addr), PE (X.blk s H scope (compEnvC scope cl C X.env) fp) elt (LD (pk X G) PV W0 e)) (hs : ∀ x, foldedSetIterable iter X.env x = pure x := by intro _; rfl) :
    PS X (.Assign [.Name y py] (.ListComp elt [⟨tg, iter, ifs, 0⟩] scope pos) spos) (LS (pk X G) PV W (sAsg (eLc (own.map (·.2)) fi g t e) (put i))) :=
  PSi (ps_setLc hc hN hy hyl hsw hi ok hg ht he hs) fun D σ H h => lc_imp σ H _ (les_bind h fun z0 z v e h0 S0 x S r A => by
    have A := accU_of A
    cases hp : put i e z.ρ z.s with
    | no => rw [hp] at A; exact A.elim
    | ex c ns vs ρ s => exact (put_no hp).elim
    | ok u ρ s =>
      rw [hp] at A
      obtain ⟨rfl, h1, h2⟩ := put_ok S0 x S r hp
      exact A _ z.F z.H z.m h2 h1)
end
end DL
set_option Elab.async false
set_option linter.all false
set_option maxRecDepth 100000
set_option maxHeartbeats 4000000
/-! DL16: a thing changes in its place; methods of lists; a thing told by its number. -/
namespace DL
open PySem L2

/-- the thing that e is holds c' now -/
def setCon (e : E) (c' : Cl) : M Unit := fun ρ s => match e with
  | .l i => match ρ[i]? with
    | some (.own _) => .ok () (ρ.set i (.own c')) s
    | some (.io _) => .ok () (ρ.set i (.io c')) s
    | _ => .no
  | .v (.ref n) => if n < s.length then .ok () ρ (s.set n c') else .no
  | _ => .no
section
variable {P : Par} {PV : List V} {W : WX} {σ : L2.St} {z : Z} {v : V} {e : E} {H0 : Hp} {a : Addr} {o : HO} {c' : Cl} {ρ' : List Sl} {s' : List Cl}
theorem setCon_ok (S : SR P PV σ z) (r : ER P σ z H0 (.ref a) e) (h : setCon e c' z.ρ z.s = .ok () ρ' s') (hc : CR P { z with H := upd z.H a o } a c') :
    SR P PV σ ⟨z.F, upd z.H a o, z.m, ρ', s'⟩ ∧ EX σ z σ ⟨z.F, upd z.H a o, z.m, ρ', s'⟩ := by
  have main : Mu σ z a → (∀ b, Mu σ ⟨z.F, upd z.H a o, z.m, ρ', s'⟩ b → Mu σ z b) → z.m.length = s'.length → ρ'.length = z.ρ.length →
      (∀ (n : Nat) b c, z.m[n]? = some b → s'[n]? = some c → (b = a ∧ c = c') ∨ (b ≠ a ∧ z.s[n]? = some c)) →
      (∀ (i : Nat) x, ρ'[i]? = some x → (∃ c0, (x = .own c' ∧ z.ρ[i]? = some (.own c0) ∨ x = .io c' ∧ z.ρ[i]? = some (.io c0)) ∧ σ[i]? = some (some (.ref a))) ∨ (z.ρ[i]? = some x ∧ ¬ OwnAt σ z i a)) →
      (∀ i b, OwnAt σ ⟨z.F, upd z.H a o, z.m, ρ', s'⟩ i b → OwnAt σ z i b) →
      SR P PV σ ⟨z.F, upd z.H a o, z.m, ρ', s'⟩ ∧ EX σ z σ ⟨z.F, upd z.H a o, z.m, ρ', s'⟩ := fun hmu hmu' hlen hρl hcl hsl hown => by
    have hf := S.mu_none hmu
    obtain ⟨o0, ho0⟩ := S.mu_there hmu
    refine ⟨⟨fun b u h => ?_, hlen, S.nd, fun n b c h1 h2 => ?_, fun i x h => ?_, fun i j b h1 h2 => S.sd i j b (hown i b h1) (hown j b h2), by show ρ'.length ≤ _; rw [hρl]; exact S.ln⟩,
      ⟨fun _ _ h => h, ⟨[], (List.append_nil _).symm⟩, fun b u h nm nf => ?_, fun _ _ h => .inl h, fun b u h => ?_, fun b h => .inl (hmu' b h)⟩⟩
    · have hne : b ≠ a := fun e => by subst e; have h : z.F b = some u := h; rw [hf] at h; cases h
      show Lk (upd z.H a o b) u
      rw [upd_ne hne]
      exact S.fz b u h
    · rcases hcl n b c h1 h2 with ⟨rfl, rfl⟩ | ⟨hne, h3⟩
      · exact ⟨hf, hc.rho (z := { z with H := upd z.H b o })⟩
      · exact ⟨(S.cl n b c h1 h3).1, ((S.cl n b c h1 h3).2.poke hne).rho (z := { z with H := upd z.H a o })⟩
    · rcases hsl i x h with ⟨c0, hx, hσ⟩ | ⟨h1, hno⟩
      · rcases hx with ⟨rfl, hx⟩ | ⟨rfl, hx⟩
        · obtain ⟨b, e1, e2, e3, e4⟩ := S.sl i _ hx
          rw [hσ] at e1; cases e1
          exact ⟨a, hσ, e2, e3, hc.rho (z := { z with H := upd z.H a o })⟩
        · obtain ⟨b, e1, e0, e2, e3, e4⟩ := S.sl i _ hx
          rw [hσ] at e1; cases e1
          exact ⟨a, hσ, e0, e2, e3, hc.rho (z := { z with H := upd z.H a o })⟩
      · have r := S.sl i x h1
        cases x with
        | no => trivial
        | val d => exact r
        | own c =>
          obtain ⟨b, e1, e2, e3, e4⟩ := r
          exact ⟨b, e1, e2, e3, (e4.poke fun e => hno (by subst e; exact ⟨⟨c, .inl h1⟩, e1⟩)).rho (z := { z with H := upd z.H a o })⟩
        | io c =>
          obtain ⟨b, e1, e0, e2, e3, e4⟩ := r
          exact ⟨b, e1, e0, e2, e3, (e4.poke fun e => hno (by subst e; exact ⟨⟨c, .inr h1⟩, e1⟩)).rho (z := { z with H := upd z.H a o })⟩
    · have hne : b ≠ a := fun e => by subst e; exact nm hmu
      show upd z.H a o b = some u
      rw [upd_ne hne]; exact h
    · by_cases e : b = a
      · subst e; exact ⟨o, upd_same⟩
      · show ∃ o', upd z.H a o b = _
        rw [upd_ne e]; exact ⟨u, h⟩
  cases e with
  | f c => cases h
  | l i =>
    have hi : σ[i]? = some (some (.ref a)) := r
    have h' : (match z.ρ[i]? with | some (.own _) => .ok () (z.ρ.set i (.own c')) z.s | some (.io _) => .ok () (z.ρ.set i (.io c')) z.s | _ => .no : R Unit) = .ok () ρ' s' := h
    have fin : ∀ (c0 : Cl) (x : Sl), (x = .own c' ∧ z.ρ[i]? = some (.own c0)) ∨ (x = .io c' ∧ z.ρ[i]? = some (.io c0)) → ρ' = z.ρ.set i x → s' = z.s → SR P PV σ ⟨z.F, upd z.H a o, z.m, ρ', s'⟩ ∧ EX σ z σ ⟨z.F, upd z.H a o, z.m, ρ', s'⟩ := fun c0 x hx e1 e2 => by
      subst e1; subst e2
      have ow : OwnAt σ z i a := hx.elim (fun ⟨_, q⟩ => ⟨⟨c0, .inl q⟩, hi⟩) fun ⟨_, q⟩ => ⟨⟨c0, .inr q⟩, hi⟩
      have hl : i < z.ρ.length := hx.elim (fun ⟨_, q⟩ => (List.getElem?_eq_some_iff.mp q).1) fun ⟨_, q⟩ => (List.getElem?_eq_some_iff.mp q).1
      have own : ∀ j b, OwnAt σ ⟨z.F, upd z.H a o, z.m, z.ρ.set i x, z.s⟩ j b → OwnAt σ z j b := fun j b ⟨⟨c, hc⟩, e⟩ => by
        by_cases q : j = i
        · subst q
          rw [hi] at e; cases e
          exact ow
        · rcases hc with hc | hc
          · have hc : (z.ρ.set i x)[j]? = _ := hc
            rw [List.getElem?_set_ne (Ne.symm q)] at hc; exact ⟨⟨c, .inl hc⟩, e⟩
          · have hc : (z.ρ.set i x)[j]? = _ := hc
            rw [List.getElem?_set_ne (Ne.symm q)] at hc; exact ⟨⟨c, .inr hc⟩, e⟩
      refine main (.inr ⟨i, ow⟩) (fun b h => h.elim .inl fun ⟨j, h⟩ => .inr ⟨j, own j b h⟩) S.len (List.length_set ..) (fun n b c h1 h2 => .inr ⟨fun e => (S.own ow).2.1 (by rw [← e]; exact List.mem_of_getElem? h1), h2⟩) (fun j y hy => ?_) own
      by_cases q : j = i
      · subst q
        rw [List.getElem?_set_self hl] at hy
        cases hy
        rcases hx with ⟨rfl, q⟩ | ⟨rfl, q⟩
        · exact .inl ⟨c0, .inl ⟨rfl, q⟩, hi⟩
        · exact .inl ⟨c0, .inr ⟨rfl, q⟩, hi⟩
      · rw [List.getElem?_set_ne (Ne.symm q)] at hy
        exact .inr ⟨hy, fun h => q (S.sd j i a h ow)⟩
    clear h
    cases hρ : z.ρ[i]? with
    | none => rw [hρ] at h'; cases h'
    | some y =>
      rw [hρ] at h'
      cases y with
      | no => cases h'
      | val d => cases h'
      | own c0 => cases h'; exact fin c0 (.own c') (.inl ⟨rfl, hρ⟩) rfl rfl
      | io c0 => cases h'; exact fin c0 (.io c') (.inr ⟨rfl, hρ⟩) rfl rfl
  | v d =>
    cases d with
    | ref n =>
      have h' : (if n < z.s.length then .ok () z.ρ (z.s.set n c') else .no : R Unit) = .ok () ρ' s' := h
      by_cases hn : n < z.s.length
      · rw [if_pos hn] at h'
        cases h'
        have hm : z.m[n]? = some a := by cases (show Rep P z.F z.m (.ref a) (.ref n) from r) with | ref h => exact h
        have nown : ∀ i, ¬ OwnAt σ z i a := fun i q => (S.own q).2.1 (List.mem_of_getElem? hm)
        refine main (.inl (List.mem_of_getElem? hm)) (fun b h => h) (by rw [List.length_set]; exact S.len) rfl (fun k b c h1 h2 => ?_) (fun i x hx => .inr ⟨hx, nown i⟩) (fun i b h => h)
        by_cases q : k = n
        · subst q
          rw [List.getElem?_set_self hn] at h2
          rw [hm] at h1
          cases h1; cases h2
          exact .inl ⟨rfl, rfl⟩
        · rw [List.getElem?_set_ne (Ne.symm q)] at h2
          refine .inr ⟨fun e => q ?_, h2⟩
          subst e
          exact (List.getElem?_inj (List.getElem?_eq_some_iff.mp h1).1 S.nd).mp (h1.trans hm.symm)
      · rw [if_neg hn] at h'; cases h'
    | _ => cases h
theorem setCon_con (h : setCon e c' z.ρ z.s = .ok () ρ' s') : ∃ c, con e z.ρ z.s = some c := by
  cases e with
  | f c => cases h
  | l i =>
    have h' : (match z.ρ[i]? with | some (.own _) => .ok () (z.ρ.set i (.own c')) z.s | some (.io _) => .ok () (z.ρ.set i (.io c')) z.s | _ => .no : R Unit) = .ok () ρ' s' := h
    clear h
    cases hρ : z.ρ[i]? with
    | none => rw [hρ] at h'; cases h'
    | some y =>
      rw [hρ] at h'
      cases y with
      | no => cases h'
      | val d => cases h'
      | own c0 => exact ⟨c0, by show (match z.ρ[i]? with | some (.own c) => some c | some (.io c) => some c | _ => none) = _; rw [hρ]⟩
      | io c0 => exact ⟨c0, by show (match z.ρ[i]? with | some (.own c) => some c | some (.io c) => some c | _ => none) = _; rw [hρ]⟩
  | v d =>
    cases d with
    | ref n =>
      have h' : (if n < z.s.length then .ok () z.ρ (z.s.set n c') else .no : R Unit) = .ok () ρ' s' := h
      by_cases hn : n < z.s.length
      · exact ⟨z.s[n], List.getElem?_eq_getElem hn⟩
      · rw [if_neg hn] at h'; cases h'
    | _ => cases h
theorem setCon_ex {c ns vs} (h : setCon e c' z.ρ z.s = .ex c ns vs ρ' s') : False := by
  cases e with
  | f c => cases h
  | l i =>
    have h' : (match z.ρ[i]? with | some (.own _) => .ok () (z.ρ.set i (.own c')) z.s | some (.io _) => .ok () (z.ρ.set i (.io c')) z.s | _ => .no : R Unit) = .ex c ns vs ρ' s' := h
    clear h
    cases hρ : z.ρ[i]? with
    | none => rw [hρ] at h'; cases h'
    | some y =>
      rw [hρ] at h'
      cases y <;> cases h'
  | v d =>
    cases d with
    | ref n =>
      have h' : (if n < z.s.length then .ok () z.ρ (z.s.set n c') else .no : R Unit) = .ex c ns vs ρ' s' := h
      split at h' <;> cases h'
    | _ => cases h
end

/-- what is writable, as it stands -/
theorem con_wr {P : Par} {PV : List V} {σ : L2.St} {z : Z} {v : V} {e : E} {H0 : Hp} {c c' : Cl} {ρ' : List Sl} {s' : List Cl} (S : SR P PV σ z) (r : ER P σ z H0 v e) (hc : con e z.ρ z.s = some c) (h : setCon e c' z.ρ z.s = .ok () ρ' s') : ∃ a, v = .ref a ∧ CR P z a c := by
  cases e with
  | f c => cases h
  | l i =>
    have hi : σ[i]? = some (some v) := r
    have hc' : (match z.ρ[i]? with | some (.own c) => some c | some (.io c) => some c | _ => none) = some c := hc
    clear hc h
    cases hρ : z.ρ[i]? with
    | none => rw [hρ] at hc'; cases hc'
    | some y =>
      rw [hρ] at hc'
      cases y with
      | no => cases hc'
      | val d => cases hc'
      | own c0 =>
        cases hc'
        obtain ⟨b, e1, _, _, h⟩ := S.sl i _ hρ
        rw [hi] at e1; cases e1
        exact ⟨b, rfl, h⟩
      | io c0 =>
        cases hc'
        obtain ⟨b, e1, _, _, _, h⟩ := S.sl i _ hρ
        rw [hi] at e1; cases e1
        exact ⟨b, rfl, h⟩
  | v d =>
    cases d with
    | ref n =>
      cases (show Rep P z.F z.m v (.ref n) from r) with
      | @ref _ a hm => exact ⟨a, rfl, (S.cl n a c hm hc).2⟩
    | _ => cases h
/-- a change, then its value -/
def chg (e : E) (c' : Cl) (d : D) : M E := M.bind (setCon e c') fun _ => M.pure (.v d)
section
variable {P : Par} {PV : List V} {W : WX} {σ : L2.St} {z : Z} {v : V} {e : E} {H0 : Hp} {Q : VK}
/-- a list that changes: what the rule's heap is -/
theorem chg_lst {xs ys : List D} {d : D} (S : SR P PV σ z) (r : ER P σ z H0 v e) (hc : con e z.ρ z.s = some (.lst xs)) (A : Acc P PV W σ z (erel P σ z.H) (chg e (.lst ys) d z.ρ z.s) Q) :
    ∃ a us, v = .ref a ∧ z.H a = some (.lst us) ∧ RepL P z.F z.m us xs ∧ ∀ ws u, RepL P z.F z.m ws ys → Rep P z.F z.m u d → Q u (upd z.H a (.lst ws)) := by
  unfold chg at A
  rw [bind_eq] at A
  cases hs : setCon e (.lst ys) z.ρ z.s with
  | no => rw [hs] at A; exact A.elim
  | ex c ns vs ρ s => exact (setCon_ex hs).elim
  | ok u ρ s =>
    rw [hs] at A
    obtain ⟨a, rfl, us, h1, h2⟩ := con_wr S r hc hs
    refine ⟨a, us, rfl, h1, h2, fun ws u l ru => ?_⟩
    obtain ⟨S', x'⟩ := setCon_ok (o := .lst ws) S r hs ⟨ws, upd_same, l⟩
    exact A u z.F _ z.m x' S' (ru.mono (fun _ _ h => h) ⟨[], (List.append_nil _).symm⟩)
end

/-! ### methods of a list -/
/-- op stands for the method whose rule is r -/
def MtD (P : Par) (PV : List V) (W : WX) (op : E → List D → M E) (r : V → List V → Hp → VK → Prop) : Prop := ∀ (σ : L2.St) (z : Z) (H0 : Hp) (x : V) (o : E) (vs : List V) (ds : List D) (Q : VK), SR P PV σ z → ER P σ z H0 x o → RepL P z.F z.m vs ds → Acc P PV W σ z (erel P σ z.H) (op o ds z.ρ z.s) Q → r x vs z.H Q
/-- of that builtin type -/
def tyE (T : String) (e : E) (ρ : List Sl) (s : List Cl) : Bool := match e with
  | .v (.str _) => T == "str"
  | .v (.int _) => T == "int"
  | .v (.scr _) => T == "list"
  | e => match con e ρ s with
    | some (.lst _) => T == "list"
    | _ => false
theorem tyE_ok {P : Par} {PV : List V} {σ : L2.St} {z : Z} {v : V} {e : E} {H0 : Hp} {T : String} (S : SR P PV σ z) (r : ER P σ z H0 v e) (h : tyE T e z.ρ z.s = true) : tyV P.K T v z.H := by
  unfold tyE at h
  split at h
  · cases r.str; exact (beq_iff_eq.mp h)
  · cases r.int; exact (beq_iff_eq.mp h)
  · obtain ⟨a, rfl, h1⟩ := r.scr S
    exact .inl ⟨beq_iff_eq.mp h, _, h1⟩
  · split at h
    · rename_i hc
      obtain ⟨a, rfl, vs, h1, l⟩ := con_ok S r hc
      exact .inl ⟨beq_iff_eq.mp h, vs, SqL.of h1⟩
    · cases h
def eBm0 (T : String) (op : E → List D → M E) (fo : M E) : M E := M.bind fo fun o ρ s => if tyE T o ρ s = true then op o [] ρ s else .no
def eBm (T : String) (op : E → List D → M E) (fo : M E) (fl : M (List D)) : M E := M.bind fo fun o ρ s => if tyE T o ρ s = true then M.bind fl (fun ds => op o ds) ρ s else .no
section
variable {X : Cx} {G : Str → Addr} {PV : List V} {W : WX} {o e : Expr} {es : List Expr} {fo : M E} {fl : M (List D)} {name : Str} {apos cpos : Pos} {T id : String} {r : V → List V → Hp → VK → Prop} {op : E → List D → M E}
theorem de_bm0 (pa : PlainAttrs T) (slot : Slot T name id) (hty : typeOf (.builtin id) = pure (.type "method_descriptor")) (hm : MtR X id r) (hop : MtD (pk X G) PV W op r) (ho : PE X o (LE (pk X G) PV W fo))
    (hbase : attributeBase o name X.env (eval o X.env) = eval o X.env := by rfl) (hline : (apos.endLine == cpos.line) = true := by rfl) : PE X (.Call (.Attribute o name apos) [] [] cpos) (LE (pk X G) PV W (eBm0 T op fo)) :=
  PEi (pe_bm0 pa slot hty hm ho hbase hline) fun σ H Q h => le_bind (rel := fun H => erel (pk X G) σ H) (fun k q => erel_org k q) h fun z1 v e1 S1 r1 A => by
    by_cases ht : tyE T e1 z1.ρ z1.s = true
    · rw [if_pos ht] at A
      exact ⟨tyE_ok S1 r1 ht, hop σ z1 _ v e1 [] [] Q S1 r1 .nil A⟩
    · rw [if_neg ht] at A; exact A.elim
theorem de_bm (pa : PlainAttrs T) (slot : Slot T name id) (hty : typeOf (.builtin id) = pure (.type "method_descriptor")) (hm : MtR X id r) (hop : MtD (pk X G) PV W op r) (ho : PE X o (LE (pk X G) PV W fo)) (ha : PA X (e :: es) (LA (pk X G) PV W fl))
    (hbase : attributeBase o name X.env (eval o X.env) = eval o X.env := by rfl)
    (hfew : ((backTo cpos (starEach (e :: es) X.env)).all (fun x => !x.1) && (backToKw cpos (keywordEach [] X.env)).all (fun x => x.1.isSome)
      && decide ((e :: es).length + ([] : List Keyword).length + (if ([] : List Keyword).isEmpty then 0 else 1) < 30)) = true := by rfl)
    (hline : (apos.endLine == cpos.line) = true := by rfl) (hs : starEach (e :: es) X.env = (false, eval e X.env) :: starEach es X.env := by rfl) (hplain : (backTo cpos (starEach es X.env)).any (·.1) = false := by rfl) :
    PE X (.Call (.Attribute o name apos) (e :: es) [] cpos) (LE (pk X G) PV W (eBm T op fo fl)) :=
  PEi (pe_bm pa slot hty hm ho ha hbase hfew hline hs hplain) fun σ H Q h => le_bind (rel := fun H => erel (pk X G) σ H) (fun k q => erel_org k q) h fun z1 v e1 S1 r1 A => by
    by_cases ht : tyE T e1 z1.ρ z1.s = true
    · rw [if_pos ht] at A
      refine ⟨tyE_ok S1 r1 ht, z1, rfl, S1, ?_⟩
      rw [bind_eq] at A
      cases hf : fl z1.ρ z1.s with
      | no => rw [hf] at A; exact A.elim
      | ex c ns vs ρ s => rw [hf] at A; exact A
      | ok ds ρ s =>
        rw [hf] at A
        intro vs F H2 m x2 S2 l
        exact hop σ ⟨F, H2, m, ρ, s⟩ _ v e1 vs ds Q S2 (r1.up S1 x2) l (A.later S1 x2 fun z2 b y _ q => erel_org (fun a ha => x2.kn ha) q)
    · rw [if_neg ht] at A; exact A.elim
end
def oAppend (o : E) (ds : List D) : M E := fun ρ s => match con o ρ s, ds with
  | some (.lst xs), [d] => if xs.length < sizeLine then chg o (.lst (xs ++ [d])) .non ρ s else .no
  | _, _ => .no
def oExtend (o : E) (ds : List D) : M E := fun ρ s => match con o ρ s, ds with
  | some (.lst xs), [.lst ys] => if xs.length + ys.length ≤ sizeLine then chg o (.lst (xs ++ ys)) .non ρ s else .no
  | _, _ => .no
def oPop (o : E) (ds : List D) : M E := fun ρ s => match con o ρ s, ds with
  | some (.lst xs), [] => match xs[xs.length - 1]? with
    | some d => chg o (.lst xs.dropLast) d ρ s
    | none => .no
  | _, _ => .no
def oPopAt (o : E) (ds : List D) : M E := fun ρ s => match con o ρ s, ds with
  | some (.lst xs), [.int i] => if -(2 ^ 63) ≤ i ∧ i < 2 ^ 63 then match seqIndex? i xs.length with
    | some k => match xs[k]? with
      | some d => chg o (.lst (xs.eraseIdx k)) d ρ s
      | none => .no
    | none => .no else .no
  | _, _ => .no
def oReverse (o : E) (ds : List D) : M E := fun ρ s => match con o ρ s, ds with
  | some (.lst xs), [] => chg o (.lst xs.reverse) .non ρ s
  | _, _ => .no
def oClear (o : E) (ds : List D) : M E := fun ρ s => match con o ρ s, ds with
  | some (.lst _), [] => chg o (.lst []) .non ρ s
  | _, _ => .no
def oInsert (o : E) (ds : List D) : M E := fun ρ s => match con o ρ s, ds with
  | some (.lst xs), [.int i, d] => if xs.length < sizeLine ∧ 0 ≤ i ∧ i < 2 ^ 63 then chg o (.lst (xs.take i.toNat ++ [d] ++ xs.drop i.toNat)) .non ρ s else .no
  | _, _ => .no
theorem RepL.eraseIdx {P : Par} {F : Hp} {m : List Addr} {vs : List V} {ds : List D} (i : Nat) (h : RepL P F m vs ds) : RepL P F m (vs.eraseIdx i) (ds.eraseIdx i) := by
  rw [List.eraseIdx_eq_take_drop_succ, List.eraseIdx_eq_take_drop_succ]
  exact (h.take i).append (h.drop (i + 1))
theorem RepL.dropLast {P : Par} {F : Hp} {m : List Addr} {vs : List V} {ds : List D} (h : RepL P F m vs ds) : RepL P F m vs.dropLast ds.dropLast := by
  rw [List.dropLast_eq_take, List.dropLast_eq_take, h.length]
  exact h.take _
theorem RepL.one {P : Par} {F : Hp} {m : List Addr} {vs : List V} {d : D} (h : RepL P F m vs [d]) : ∃ v, vs = [v] ∧ Rep P F m v d := by
  cases h with
  | cons r l => cases l; exact ⟨_, rfl, r⟩
theorem RepL.two {P : Par} {F : Hp} {m : List Addr} {vs : List V} {d d' : D} (h : RepL P F m vs [d, d']) : ∃ v v', vs = [v, v'] ∧ Rep P F m v d ∧ Rep P F m v' d' := by
  cases h with
  | cons r l =>
    obtain ⟨v', rfl, r'⟩ := l.one
    exact ⟨_, v', rfl, r, r'⟩
section
variable {P : Par} {PV : List V} {W : WX}
theorem md_append : MtD P PV W oAppend rAppend := by
  intro σ z H0 x o vs ds Q S ro rl A
  unfold oAppend at A
  split at A
  · rename_i xs d hc
    split at A
    · rename_i hz
      obtain ⟨v, rfl, rv⟩ := rl.one
      obtain ⟨a, us, rfl, ha, l, k⟩ := chg_lst S ro hc A
      exact ⟨a, us, v, rfl, rfl, ha, by rw [l.length]; exact hz, k _ .non (l.snoc rv) .non⟩
    · exact A.elim
  · exact A.elim
theorem md_extend : MtD P PV W oExtend rExtend := by
  intro σ z H0 x o vs ds Q S ro rl A
  unfold oExtend at A
  split at A
  · rename_i xs ys hc
    split at A
    · rename_i hz
      obtain ⟨v, rfl, rv⟩ := rl.one
      obtain ⟨a, us, rfl, ha, l, k⟩ := chg_lst S ro hc A
      obtain ⟨b, rfl, ws, h1, l2⟩ := con_ok (e := .v (.lst ys)) (c := .lst ys) (H0 := z.H) S rv rfl
      exact ⟨a, b, us, ws, rfl, rfl, ha, h1, by rw [l.length, l2.length]; exact hz, k _ .non (l.append l2) .non⟩
    · exact A.elim
  · exact A.elim
theorem md_pop : MtD P PV W oPop rPop := by
  intro σ z H0 x o vs ds Q S ro rl A
  unfold oPop at A
  split at A
  · rename_i xs hc
    split at A
    · rename_i d hd
      cases rl
      obtain ⟨a, us, rfl, ha, l, k⟩ := chg_lst S ro hc A
      obtain ⟨v, hv, rv⟩ := l.get hd
      exact ⟨a, us, v, rfl, rfl, ha, by rw [l.length]; exact hv, k _ v l.dropLast rv⟩
    · exact A.elim
  · exact A.elim
theorem md_popAt : MtD P PV W oPopAt rPopAt := by
  intro σ z H0 x o vs ds Q S ro rl A
  unfold oPopAt at A
  split at A
  · rename_i xs i hc
    split at A
    · rename_i hi
      split at A
      · rename_i k hk
        split at A
        · rename_i d hd
          obtain ⟨v0, rfl, rv0⟩ := rl.one
          cases rv0
          obtain ⟨a, us, rfl, ha, l, kk⟩ := chg_lst S ro hc A
          obtain ⟨v, hv, rv⟩ := l.get hd
          exact ⟨a, us, i, k, v, rfl, rfl, ha, hi.1, hi.2, by rw [l.length]; exact hk, hv, kk _ v (l.eraseIdx k) rv⟩
        · exact A.elim
      · exact A.elim
    · exact A.elim
  · exact A.elim
theorem md_reverse : MtD P PV W oReverse rReverse := by
  intro σ z H0 x o vs ds Q S ro rl A
  unfold oReverse at A
  split at A
  · rename_i xs hc
    cases rl
    obtain ⟨a, us, rfl, ha, l, k⟩ := chg_lst S ro hc A
    exact ⟨a, us, rfl, rfl, ha, k _ .non l.reverse .non⟩
  · exact A.elim
theorem md_clear : MtD P PV W oClear rClear := by
  intro σ z H0 x o vs ds Q S ro rl A
  unfold oClear at A
  split at A
  · rename_i xs hc
    cases rl
    obtain ⟨a, us, rfl, ha, l, k⟩ := chg_lst S ro hc A
    exact ⟨a, us, rfl, rfl, ha, k _ .non .nil .non⟩
  · exact A.elim
theorem md_insert : MtD P PV W oInsert (fun x vs H Q => ∃ (l : Addr) (xs : List V) (i : Int) (y : V), x = .ref l ∧ vs = [.int i, y] ∧ H l = some (.lst xs) ∧ xs.length < sizeLine ∧ 0 ≤ i ∧ i < 2 ^ 63 ∧
    Q .non (upd H l (.lst (xs.take i.toNat ++ [y] ++ xs.drop i.toNat)))) := by
  intro σ z H0 x o vs ds Q S ro rl A
  unfold oInsert at A
  split at A
  · rename_i xs i d hc
    split at A
    · rename_i hi
      obtain ⟨v0, v, rfl, rv0, rv⟩ := rl.two
      cases rv0
      obtain ⟨a, us, rfl, ha, l, k⟩ := chg_lst S ro hc A
      exact ⟨a, us, i, v, rfl, rfl, ha, by rw [l.length]; exact hi.1, hi.2.1, hi.2.2, k _ .non (((l.take _).snoc rv).append (l.drop _)) .non⟩
    · exact A.elim
  · exact A.elim
end
end DL
set_option Elab.async false
set_option linter.all false
set_option maxRecDepth 100000
set_option maxHeartbeats 4000000
/-! DL17: calls of builtins. -/
namespace DL
open PySem L2

theorem CallR.or {X : Cx} {f : Value} {r r' : List V → Hp → VK → Prop} (h : CallR X f r) (h' : CallR X f r') : CallR X f (fun vs H Q => r vs H Q ∨ r' vs H Q) := by
  intro pins s σ H vs us Q I rv q
  rcases q with q | q
  · exact h pins s σ H vs us Q I rv q
  · exact h' pins s σ H vs us Q I rv q
/-- op stands for the builtin whose rule is r -/
def CdD (P : Par) (PV : List V) (W : WX) (op : List E → M E) (r : List V → Hp → VK → Prop) : Prop := ∀ (σ : L2.St) (z : Z) (H0 : Hp) (vs : List V) (es : List E) (Q : VK), SR P PV σ z → ERs P σ z H0 vs es → Acc P PV W σ z (erel P σ z.H) (op es z.ρ z.s) Q → r vs z.H Q
section
variable {X : Cx} {G : Str → Addr} {PV : List V} {W : WX} {e : Expr} {es : List Expr} {fl : M (List E)} {x : Str} {p pos : Pos} {id T : String} {r : List V → Hp → VK → Prop} {op : List E → M E}
theorem cd_imp (hop : CdD (pk X G) PV W op r) : ∀ σ H Q, LE (pk X G) PV W (M.bind fl op) σ H Q → tCB r (LEs (pk X G) PV W fl) σ H Q := fun σ H Q h => ls_bind (rel := fun H => erel (pk X G) σ H) (fun k q => erel_org k q) h fun z1 vs es S l A => hop σ z1 _ vs es Q S l A
theorem de_callB (hop : CdD (pk X G) PV W op r) (hc : CallR X (.builtin id) r) (hg : Gl X x) (hm : X.mg x = none) (hv : bootBuiltins x = some (.builtin id)) (ha : PA X (e :: es) (LEs (pk X G) PV W fl)) (hn : x ≠ "__name__" := by decide) (hdb : (x == ("__debug__" : Str)) = false := by decide)
    (he : starEach (e :: es) X.env = (false, eval e X.env) :: starEach es X.env := by rfl) (hpl : (backTo pos (starEach es X.env)).any (·.1) = false := by rfl) : PE X (.Call (.Name x p) (e :: es) [] pos) (LE (pk X G) PV W (M.bind fl op)) :=
  PEi (pe_callB hc hg hm hv ha hn hdb he hpl) (cd_imp hop)
theorem de_callTy (hop : CdD (pk X G) PV W op r) (hc : CallR X (.type T) r) (hg : Gl X x) (hm : X.mg x = none) (hv : bootBuiltins x = some (.type T)) (ha : PA X (e :: es) (LEs (pk X G) PV W fl)) (hn : x ≠ "__name__" := by decide) (hdb : (x == ("__debug__" : Str)) = false := by decide)
    (he : starEach (e :: es) X.env = (false, eval e X.env) :: starEach es X.env := by rfl) (hpl : (backTo pos (starEach es X.env)).any (·.1) = false := by rfl) : PE X (.Call (.Name x p) (e :: es) [] pos) (LE (pk X G) PV W (M.bind fl op)) :=
  PEi (pe_callTy hc hg hm hv ha hn hdb he hpl) (cd_imp hop)
end
theorem ERs.one {P : Par} {σ : L2.St} {z : Z} {H0 : Hp} {vs : List V} {e : E} (h : ERs P σ z H0 vs [e]) : ∃ v, vs = [v] ∧ ER P σ z H0 v e := by
  cases h with
  | cons r _ l => cases l; exact ⟨_, rfl, r⟩
theorem ERs.two {P : Par} {σ : L2.St} {z : Z} {H0 : Hp} {vs : List V} {e e' : E} (h : ERs P σ z H0 vs [e, e']) : ∃ v v', vs = [v, v'] ∧ ER P σ z H0 v e ∧ ER P σ z H0 v' e' := by
  cases h with
  | cons r _ l =>
    obtain ⟨v', rfl, r'⟩ := l.one
    exact ⟨_, v', rfl, r, r'⟩
/-- the items of a list or a tuple, seen now -/
def itemsE (e : E) (ρ : List Sl) (s : List Cl) : Option (Bool × List D) := match e with
  | .v (.tup xs) => some (true, xs)
  | .v (.kt xs) => some (true, xs)
  | .v (.scr ns) => some (false, ns.map D.int)
  | e => match con e ρ s with
    | some (.lst xs) => some (false, xs)
    | _ => none
section
variable {P : Par} {PV : List V} {W : WX} {σ : L2.St} {z : Z} {v : V} {e : E} {H0 : Hp}
theorem RepL.ints {F : Hp} {m : List Addr} : ∀ (ns : List Int), RepL P F m (ns.map V.int) (ns.map D.int)
  | [] => .nil
  | _ :: ns => .cons (.int _) (RepL.ints ns)
theorem itemsE_ok {b : Bool} {xs : List D} (S : SR P PV σ z) (r : ER P σ z H0 v e) (h : itemsE e z.ρ z.s = some (b, xs)) : ∃ a vs, v = .ref a ∧ (if b = true then SqT P.K z.H a vs else SqL P.K z.H a vs) ∧ RepL P z.F z.m vs xs := by
  have other : (match con e z.ρ z.s with | some (.lst xs) => some (false, xs) | _ => none) = some (b, xs) → ∃ a vs, v = .ref a ∧ (if b = true then SqT P.K z.H a vs else SqL P.K z.H a vs) ∧ RepL P z.F z.m vs xs := fun h => by
    split at h
    · rename_i ys hc
      cases h
      obtain ⟨a, rfl, vs, h1, l⟩ := con_ok S r hc
      exact ⟨a, vs, rfl, SqL.of h1, l⟩
    · cases h
  cases e with
  | l i => exact other h
  | f c => exact other h
  | v d =>
    cases d with
    | tup ys =>
      cases h
      obtain ⟨a, vs, rfl, h1, l, _⟩ := r.tup S
      exact ⟨a, vs, rfl, h1, l⟩
    | kt ys =>
      cases h
      obtain ⟨a, vs, rfl, h1, l⟩ := r.kt
      exact ⟨a, vs, rfl, h1, l⟩
    | scr ns =>
      cases h
      obtain ⟨a, rfl, h1⟩ := r.scr S
      exact ⟨a, _, rfl, h1, RepL.ints ns⟩
    | _ => exact other h
theorem itemsE_any {b : Bool} {xs : List D} (S : SR P PV σ z) (r : ER P σ z H0 v e) (h : itemsE e z.ρ z.s = some (b, xs)) : ∃ a vs, v = .ref a ∧ (SqL P.K z.H a vs ∨ SqT P.K z.H a vs) ∧ RepL P z.F z.m vs xs := by
  obtain ⟨a, vs, e1, h1, l⟩ := itemsE_ok S r h
  cases b with
  | true => exact ⟨a, vs, e1, .inr h1, l⟩
  | false => exact ⟨a, vs, e1, .inl h1, l⟩
end
/-- what a thing that is not frozen holds -/
def conW (e : E) (ρ : List Sl) (s : List Cl) : Option Cl := match e with
  | .v (.ref n) => s[n]?
  | .v _ => none
  | e => con e ρ s
theorem conW_con {e : E} {ρ : List Sl} {s : List Cl} {c : Cl} (h : conW e ρ s = some c) : con e ρ s = some c := by
  cases e with
  | l i => exact h
  | f c => exact h
  | v d => cases d <;> first | exact h | cases h
theorem conW_ok {P : Par} {PV : List V} {σ : L2.St} {z : Z} {v : V} {e : E} {H0 : Hp} {c : Cl} (S : SR P PV σ z) (r : ER P σ z H0 v e) (hc : conW e z.ρ z.s = some c) : ∃ a, v = .ref a ∧ CR P z a c := by
  cases e with
  | f c' =>
    obtain ⟨a, rfl, _, _, _, h⟩ := r
    cases hc
    exact ⟨a, rfl, h⟩
  | l i =>
    have hi : σ[i]? = some (some v) := r
    have hc' : (match z.ρ[i]? with | some (.own c) => some c | some (.io c) => some c | _ => none) = some c := hc
    clear hc
    cases hρ : z.ρ[i]? with
    | none => rw [hρ] at hc'; cases hc'
    | some y =>
      rw [hρ] at hc'
      cases y with
      | no => cases hc'
      | val d => cases hc'
      | own c0 =>
        cases hc'
        obtain ⟨b, e1, _, _, h⟩ := S.sl i _ hρ
        rw [hi] at e1; cases e1
        exact ⟨b, rfl, h⟩
      | io c0 =>
        cases hc'
        obtain ⟨b, e1, _, _, _, h⟩ := S.sl i _ hρ
        rw [hi] at e1; cases e1
        exact ⟨b, rfl, h⟩
  | v d =>
    cases d with
    | ref n =>
      cases (show Rep P z.F z.m v (.ref n) from r) with
      | @ref _ a hm => exact ⟨a, rfl, (S.cl n a c hm hc).2⟩
    | _ => cases hc
/-! len, abs, max, min, int, str of ints, list, tuple -/
def gLen : List E → M E
  | [e] => fun ρ s => match e with
    | .v (.str x) => if x.length ≤ sizeLine then .ok (.v (.int x.length)) ρ s else .no
    | e => match itemsE e ρ s with
      | some (_, xs) => .ok (.v (.int xs.length)) ρ s
      | none => match conW e ρ s with
        | some (.dk ks _) => .ok (.v (.int ks.length)) ρ s
        | _ => .no
  | _ => M.no
def rLenA (K : PySem.W.Frag) : List V → Hp → VK → Prop := fun xs H Q => (∃ x n, xs = [x] ∧ LenV K x H n ∧ Q (.int n) H) ∨ (∃ a kvs, xs = [V.ref a] ∧ H a = some (.dK kvs) ∧ Q (.int kvs.length) H)
theorem cd_len {X : Cx} : CallR X (.builtin "len") (rLenA X.K) := CallR.or call_len call_lenD
def isStr : E → Bool
  | .v (.str _) => true
  | _ => false
section
variable {P : Par} {PV : List V} {W : WX}
theorem cp_len : CdD P PV W gLen (rLenA P.K) := by
  intro σ z H0 vs es Q S l A
  unfold gLen at A
  split at A
  · rename_i e
    obtain ⟨v, rfl, r⟩ := l.one
    split at A
    · rename_i x
      split at A
      · rename_i hz
        cases r.str
        exact .inl ⟨_, _, rfl, ⟨hz, rfl⟩, acc_val S (.int _) A⟩
      · exact A.elim
    · split at A
      · rename_i b xs hi
        obtain ⟨a, vs, rfl, h1, l⟩ := itemsE_any S r hi
        have e := l.length
        refine .inl ⟨_, xs.length, rfl, ?_, acc_val S (.int _) A⟩
        rcases h1 with h1 | h1
        · exact .inl ⟨vs, h1, e.symm⟩
        · exact .inr ⟨vs, h1, e.symm⟩
      · split at A
        · rename_i ks vs hc
          obtain ⟨a, rfl, us, hl, ha, l⟩ := conW_ok S r hc
          refine .inr ⟨a, _, rfl, ha, ?_⟩
          rw [List.length_zip, ← hl, Nat.min_self]
          exact acc_val S (.int _) A
        · exact A.elim
  · exact A.elim
def gInt1 (f : Int → D) : List E → M E
  | [.v (.int i)] => fun ρ s => .ok (.v (f i)) ρ s
  | _ => M.no
def gAbs : List E → M E := gInt1 fun i => .int (if i < 0 then -i else i)
def gInt : List E → M E
  | [.v (.int i)] => fun ρ s => .ok (.v (.int i)) ρ s
  | [.v (.bl b)] => fun ρ s => .ok (.v (.int (if b then 1 else 0))) ρ s
  | _ => M.no
def gInt2 (f : Int → Int → D) : List E → M E
  | [.v (.int i), .v (.int j)] => fun ρ s => .ok (.v (f i j)) ρ s
  | _ => M.no
def gMax2 : List E → M E := gInt2 fun i j => .int (if j > i then j else i)
def gMin2 : List E → M E := gInt2 fun i j => .int (if j < i then j else i)
def gStrI : List E → M E
  | [.v (.int i)] => fun ρ s => if i.natAbs.log2 < 1920 then .ok (.v (.str (toString i))) ρ s else .no
  | _ => M.no
theorem cp_abs : CdD P PV W gAbs (fun xs H Q => ∃ i, xs = [.int i] ∧ Q (.int (if i < 0 then -i else i)) H) := by
  intro σ z H0 vs es Q S l A
  unfold gAbs gInt1 at A
  split at A
  · obtain ⟨v, rfl, r⟩ := l.one
    cases r.int
    exact ⟨_, rfl, acc_val S (.int _) A⟩
  · exact A.elim
theorem cp_int : CdD P PV W gInt (fun xs H Q => (∃ i, xs = [.int i] ∧ Q (.int i) H) ∨ ∃ k, xs = [.bl k] ∧ Q (.int (if k then 1 else 0)) H) := by
  intro σ z H0 vs es Q S l A
  unfold gInt at A
  split at A
  · obtain ⟨v, rfl, r⟩ := l.one
    cases r.int
    exact .inl ⟨_, rfl, acc_val S (.int _) A⟩
  · obtain ⟨v, rfl, r⟩ := l.one
    cases r.bl
    exact .inr ⟨_, rfl, acc_val S (.int _) A⟩
  · exact A.elim
theorem cp_max2 : CdD P PV W gMax2 (fun xs H Q => ∃ i j, xs = [.int i, .int j] ∧ Q (.int (if j > i then j else i)) H) := by
  intro σ z H0 vs es Q S l A
  unfold gMax2 gInt2 at A
  split at A
  · obtain ⟨v, v', rfl, r, r'⟩ := l.two
    cases r.int
    cases r'.int
    exact ⟨_, _, rfl, acc_val S (.int _) A⟩
  · exact A.elim
theorem cp_min2 : CdD P PV W gMin2 (fun xs H Q => ∃ i j, xs = [.int i, .int j] ∧ Q (.int (if j < i then j else i)) H) := by
  intro σ z H0 vs es Q S l A
  unfold gMin2 gInt2 at A
  split at A
  · obtain ⟨v, v', rfl, r, r'⟩ := l.two
    cases r.int
    cases r'.int
    exact ⟨_, _, rfl, acc_val S (.int _) A⟩
  · exact A.elim
theorem cp_strI : CdD P PV W gStrI (fun xs H Q => ∃ i, xs = [.int i] ∧ i.natAbs.log2 < 1920 ∧ Q (.str (toString i)) H) := by
  intro σ z H0 vs es Q S l A
  unfold gStrI at A
  split at A
  · obtain ⟨v, rfl, r⟩ := l.one
    cases r.int
    split at A
    · rename_i hz
      exact ⟨_, rfl, hz, acc_val S (.str _) A⟩
    · exact A.elim
  · exact A.elim
/-- list(x), tuple(x) of a list or a tuple -/
def gList : List E → M E
  | [e] => fun ρ s => match itemsE e ρ s with
    | some (_, xs) => .ok (.f (.lst xs)) ρ s
    | none => .no
  | _ => M.no
def gTuple : List E → M E
  | [.v (.tup xs)] => fun ρ s => .ok (.v (.tup xs)) ρ s
  | [e] => fun ρ s => match itemsE e ρ s with
    | some (false, xs) => .ok (.v (.tup xs)) ρ s
    | _ => .no
  | _ => M.no
theorem cp_list : CdD P PV W gList (fun xs H Q => ∃ p ys, xs = [.ref p] ∧ (SqL P.K H p ys ∨ SqT P.K H p ys) ∧ ∀ l, H l = none → Q (.ref l) (upd H l (.lst ys))) := by
  intro σ z H0 vs es Q S l A
  unfold gList at A
  split at A
  · obtain ⟨v, rfl, r⟩ := l.one
    split at A
    · rename_i b xs hi
      obtain ⟨a, us, rfl, h1, l⟩ := itemsE_any S r hi
      exact ⟨a, us, rfl, h1, fun p hp => acc_newL S hp l A⟩
    · exact A.elim
  · exact A.elim
theorem cp_tuple : CdD P PV W gTuple (fun xs H Q => ∃ p ys, xs = [.ref p] ∧ ((SqL P.K H p ys ∧ ∀ l, H l = none → Q (.ref l) (upd H l (.tup ys))) ∨ (SqT P.K H p ys ∧ Q (.ref p) H))) := by
  intro σ z H0 vs es Q S l A
  unfold gTuple at A
  split at A
  · obtain ⟨v, rfl, r⟩ := l.one
    obtain ⟨a, us, rfl, h1, l, h2⟩ := r.tup S
    exact ⟨a, us, rfl, .inr ⟨h1, acc_val S (.tup h2 l) A⟩⟩
  · obtain ⟨v, rfl, r⟩ := l.one
    dsimp only at A
    split at A
    · rename_i xs hi
      obtain ⟨a, us, rfl, h1, l⟩ := itemsE_ok S r hi
      rw [if_neg Bool.false_ne_true] at h1
      exact ⟨a, us, rfl, .inl ⟨h1, fun p hp => acc_newT S hp l A⟩⟩
    · exact A.elim
  · exact A.elim
/-! of a list of ints, of truths -/
def intD : D → Option Int
  | .int i => some i
  | _ => none
def blD : D → Option Bool
  | .bl b => some b
  | _ => none
theorem RepL.intsOf {F : Hp} {m : List Addr} : ∀ {vs : List V} {ds : List D} {ns : List Int}, RepL P F m vs ds → mapO intD ds = some ns → vs = ns.map V.int
  | _, _, _, .nil, h => by cases h; rfl
  | _, _, _, .cons (d := d) (ds := ds) r l, h => by
    unfold mapO at h
    cases h1 : intD d with
    | none => rw [h1] at h; cases h
    | some i =>
      cases h2 : mapO intD ds with
      | none => rw [h1, h2] at h; cases h
      | some is =>
        rw [h1, h2] at h
        cases h
        rw [RepL.intsOf l h2]
        cases d with
        | int j => cases h1; cases r; rfl
        | _ => cases h1
theorem RepL.blsOf {F : Hp} {m : List Addr} : ∀ {vs : List V} {ds : List D} {ns : List Bool}, RepL P F m vs ds → mapO blD ds = some ns → vs = ns.map V.bl
  | _, _, _, .nil, h => by cases h; rfl
  | _, _, _, .cons (d := d) (ds := ds) r l, h => by
    unfold mapO at h
    cases h1 : blD d with
    | none => rw [h1] at h; cases h
    | some i =>
      cases h2 : mapO blD ds with
      | none => rw [h1, h2] at h; cases h
      | some is =>
        rw [h1, h2] at h
        cases h
        rw [RepL.blsOf l h2]
        cases d with
        | bl j => cases h1; cases r; rfl
        | _ => cases h1
def lstE (e : E) (ρ : List Sl) (s : List Cl) : Option (List D) := match itemsE e ρ s with
  | some (false, xs) => some xs
  | _ => none
theorem lstE_ok {σ : L2.St} {z : Z} {v : V} {e : E} {H0 : Hp} {xs : List D} (S : SR P PV σ z) (r : ER P σ z H0 v e) (h : lstE e z.ρ z.s = some xs) : ∃ a vs, v = .ref a ∧ SqL P.K z.H a vs ∧ RepL P z.F z.m vs xs := by
  unfold lstE at h
  split at h
  · rename_i ys hi
    cases h
    obtain ⟨a, us, rfl, h1, l⟩ := itemsE_ok S r hi
    rw [if_neg Bool.false_ne_true] at h1
    exact ⟨a, us, rfl, h1, l⟩
  · cases h
def maxL : List Int → Option Int
  | [] => none
  | x :: xs => match maxL xs with
    | none => some x
    | some m => some (if x ≥ m then x else m)
def minL : List Int → Option Int
  | [] => none
  | x :: xs => match minL xs with
    | none => some x
    | some m => some (if x ≤ m then x else m)
theorem maxL_ok : ∀ {xs : List Int} {m : Int}, maxL xs = some m → m ∈ xs ∧ ∀ y ∈ xs, y ≤ m
  | [], _, h => by cases h
  | x :: xs, m, h => by
    unfold maxL at h
    cases e : maxL xs with
    | none =>
      rw [e] at h; cases h
      have : xs = [] := by
        cases xs with
        | nil => rfl
        | cons y ys => unfold maxL at e; cases q : maxL ys <;> rw [q] at e <;> cases e
      subst this
      exact ⟨by simp, fun y hy => by simp at hy; omega⟩
    | some k =>
      rw [e] at h
      cases h
      obtain ⟨h1, h2⟩ := maxL_ok e
      by_cases q : x ≥ k
      · rw [if_pos q]
        exact ⟨by simp, fun y hy => by
          rcases List.mem_cons.mp hy with rfl | hy
          · exact Int.le_refl _
          · have := h2 y hy; omega⟩
      · rw [if_neg q]
        exact ⟨List.mem_cons_of_mem _ h1, fun y hy => by
          rcases List.mem_cons.mp hy with rfl | hy
          · omega
          · exact h2 y hy⟩
theorem minL_ok : ∀ {xs : List Int} {m : Int}, minL xs = some m → m ∈ xs ∧ ∀ y ∈ xs, m ≤ y
  | [], _, h => by cases h
  | x :: xs, m, h => by
    unfold minL at h
    cases e : minL xs with
    | none =>
      rw [e] at h; cases h
      have : xs = [] := by
        cases xs with
        | nil => rfl
        | cons y ys => unfold minL at e; cases q : minL ys <;> rw [q] at e <;> cases e
      subst this
      exact ⟨by simp, fun y hy => by simp at hy; omega⟩
    | some k =>
      rw [e] at h
      cases h
      obtain ⟨h1, h2⟩ := minL_ok e
      by_cases q : x ≤ k
      · rw [if_pos q]
        exact ⟨by simp, fun y hy => by
          rcases List.mem_cons.mp hy with rfl | hy
          · exact Int.le_refl _
          · have := h2 y hy; omega⟩
      · rw [if_neg q]
        exact ⟨List.mem_cons_of_mem _ h1, fun y hy => by
          rcases List.mem_cons.mp hy with rfl | hy
          · omega
          · exact h2 y hy⟩
def gInts (f : List Int → Option D) : List E → M E
  | [e] => fun ρ s => match lstE e ρ s with
    | some xs => match mapO intD xs with
      | some ns => match f ns with
        | some d => .ok (.v d) ρ s
        | none => .no
      | none => .no
    | none => .no
  | _ => M.no
def gSum : List E → M E := gInts fun ns => some (.int ns.sum)
def gMaxL : List E → M E := gInts fun ns => (maxL ns).map D.int
def gMinL : List E → M E := gInts fun ns => (minL ns).map D.int
theorem ints_cd {f : List Int → Option D} {r : List V → Hp → VK → Prop} (hr : ∀ (H : Hp) (a : Addr) (ns : List Int) (d : D) (Q : VK), f ns = some d → SqL P.K H a (ns.map V.int) → (∀ v, (∀ F m, Rep P F m v d) → Q v H) → r [.ref a] H Q)
    (hd : ∀ ns d, f ns = some d → ∃ i, d = .int i) : CdD P PV W (gInts f) r := by
  intro σ z H0 vs es Q S l A
  unfold gInts at A
  split at A
  · obtain ⟨v, rfl, r⟩ := l.one
    split at A
    · rename_i xs hx
      split at A
      · rename_i ns hn
        split at A
        · rename_i d hd'
          obtain ⟨a, us, rfl, h1, l⟩ := lstE_ok S r hx
          have e := l.intsOf hn
          subst e
          exact hr z.H a ns d Q hd' h1 fun v hv => acc_val S (hv _ _) A
        · exact A.elim
      · exact A.elim
    · exact A.elim
  · exact A.elim
theorem cp_sum : CdD P PV W gSum (rSum P.K) := ints_cd (fun H a ns d Q h hs q => by cases h; exact ⟨a, ns, rfl, hs, q _ fun _ _ => .int _⟩) fun ns d h => by cases h; exact ⟨_, rfl⟩
theorem cp_maxL : CdD P PV W gMaxL (rMax P.K) := ints_cd (fun H a ns d Q h hs q => by
  cases e : maxL ns with
  | none => rw [e] at h; cases h
  | some m =>
    rw [e] at h
    cases h
    obtain ⟨h1, h2⟩ := maxL_ok e
    refine ⟨a, ns, rfl, hs, List.length_pos_of_mem h1, fun k h3 h4 => ?_⟩
    have : k = m := Int.le_antisymm (h2 k h3) (h4 m h1)
    subst this
    exact q _ fun _ _ => .int _) fun ns d h => by
  cases e : maxL ns with
  | none => rw [e] at h; cases h
  | some m => rw [e] at h; cases h; exact ⟨_, rfl⟩
theorem cp_minL : CdD P PV W gMinL (rMin P.K) := ints_cd (fun H a ns d Q h hs q => by
  cases e : minL ns with
  | none => rw [e] at h; cases h
  | some m =>
    rw [e] at h
    cases h
    obtain ⟨h1, h2⟩ := minL_ok e
    refine ⟨a, ns, rfl, hs, List.length_pos_of_mem h1, fun k h3 h4 => ?_⟩
    have : k = m := Int.le_antisymm (h4 m h1) (h2 k h3)
    subst this
    exact q _ fun _ _ => .int _) fun ns d h => by
  cases e : minL ns with
  | none => rw [e] at h; cases h
  | some m => rw [e] at h; cases h; exact ⟨_, rfl⟩
def gBls (f : List Bool → Bool) : List E → M E
  | [e] => fun ρ s => match lstE e ρ s with
    | some xs => match mapO blD xs with
      | some bs => .ok (.v (.bl (f bs))) ρ s
      | none => .no
    | none => .no
  | _ => M.no
def gAll : List E → M E := gBls fun bs => bs.all id
def gAny : List E → M E := gBls fun bs => bs.any id
theorem cp_all : CdD P PV W gAll (rAll P.K) := by
  intro σ z H0 vs es Q S l A
  unfold gAll gBls at A
  split at A
  · obtain ⟨v, rfl, r⟩ := l.one
    split at A
    · rename_i xs hx
      split at A
      · rename_i bs hn
        obtain ⟨a, us, rfl, h1, l⟩ := lstE_ok S r hx
        have e := l.blsOf hn
        subst e
        exact ⟨a, bs, rfl, h1, acc_val S (.bl _) A⟩
      · exact A.elim
    · exact A.elim
  · exact A.elim
theorem cp_any : CdD P PV W gAny (rAny P.K) := by
  intro σ z H0 vs es Q S l A
  unfold gAny gBls at A
  split at A
  · obtain ⟨v, rfl, r⟩ := l.one
    split at A
    · rename_i xs hx
      split at A
      · rename_i bs hn
        obtain ⟨a, us, rfl, h1, l⟩ := lstE_ok S r hx
        have e := l.blsOf hn
        subst e
        exact ⟨a, bs, rfl, h1, acc_val S (.bl _) A⟩
      · exact A.elim
    · exact A.elim
  · exact A.elim
end
end DL
set_option Elab.async false
set_option linter.all false
set_option maxRecDepth 100000
set_option maxHeartbeats 4000000
/-! DL18: is, in, chains, slices, attributes, stores at an index or an attribute, a told thing. -/
namespace DL
open PySem L2 PySem.Spec PyProof.Rows

/-! ### is, is not: None, True, False at the right -/
def rIsV (neg : Bool) : R2 := fun x y H Q => (y = .non ∨ ∃ b, y = .bl b) ∧ Q (.bl (if neg then !decide (x = y) else decide (x = y))) H
theorem op_isV {X : Cx} : OpR X (compareOp .Is) (rIsV false) := by
  intro pins s σ H x y v u Q I rx ry h
  obtain ⟨hy, q⟩ := h
  have key : ∀ w : Value, u = w → plainIs v w = true → (v == w) = decide (x = y) → wpAny (model X.prog X.w) X.A (compareOp .Is v u) (EP X pins σ Q) X.xe s := fun w e hp hb => by
    subst e
    exact wpAny_is_plain hp ⟨.bl (decide (x = y)), H, I, by rw [hb]; rfl, q⟩
  rcases hy with rfl | ⟨b, rfl⟩
  · cases ry
    refine key _ rfl ?_ ?_
    · cases x <;> first | (cases rx; rfl) | (obtain ⟨t, rfl⟩ := rx; rfl)
    · cases x <;> first | (cases rx; simp; done) | (obtain ⟨t, rfl⟩ := rx; simp; done) | (cases rx; rfl) | (obtain ⟨t, rfl⟩ := rx; rfl)
  · cases (show u = Value.bool b from ry)
    refine key _ rfl ?_ ?_
    · cases x <;> first | (cases rx; rfl) | (obtain ⟨t, rfl⟩ := rx; rfl)
    · cases x with
      | bl c =>
        cases (show v = Value.bool c from rx)
        cases b <;> cases c <;> rfl
      | _ => first | (cases rx; simp; done) | (obtain ⟨t, rfl⟩ := rx; simp; done) | (cases rx; rfl) | (obtain ⟨t, rfl⟩ := rx; rfl)
theorem op_notV {X : Cx} : OpR X (compareOp .IsNot) (rIsV true) := by
  intro pins s σ H x y v u Q I rx ry h
  obtain ⟨hy, q⟩ := h
  have key : ∀ w : Value, u = w → plainIs v w = true → (v == w) = decide (x = y) → wpAny (model X.prog X.w) X.A (compareOp .IsNot v u) (EP X pins σ Q) X.xe s := fun w e hp hb => by
    subst e
    exact wpAny_isNot_plain hp ⟨.bl (!decide (x = y)), H, I, by rw [hb]; rfl, q⟩
  rcases hy with rfl | ⟨b, rfl⟩
  · cases ry
    refine key _ rfl ?_ ?_
    · cases x <;> first | (cases rx; rfl) | (obtain ⟨t, rfl⟩ := rx; rfl)
    · cases x <;> first | (cases rx; simp; done) | (obtain ⟨t, rfl⟩ := rx; simp; done) | (cases rx; rfl) | (obtain ⟨t, rfl⟩ := rx; rfl)
  · cases (show u = Value.bool b from ry)
    refine key _ rfl ?_ ?_
    · cases x <;> first | (cases rx; rfl) | (obtain ⟨t, rfl⟩ := rx; rfl)
    · cases x with
      | bl c =>
        cases (show v = Value.bool c from rx)
        cases b <;> cases c <;> rfl
      | _ => first | (cases rx; simp; done) | (obtain ⟨t, rfl⟩ := rx; simp; done) | (cases rx; rfl) | (obtain ⟨t, rfl⟩ := rx; rfl)
def isE (a : E) (b : D) : Bool := match a, b with
  | .v .non, .non => true
  | .v (.bl i), .bl j => i == j
  | _, _ => false
def okE (a : E) (ρ : List Sl) (s : List Cl) : Bool := match a with
  | .l i => (con (.l i) ρ s).isSome
  | _ => true
def gIs (neg : Bool) (a b : E) : M E := fun ρ s => if okE a ρ s = true then match b with
  | .v .non => .ok (.v (.bl (if neg then !isE a .non else isE a .non))) ρ s
  | .v (.bl k) => .ok (.v (.bl (if neg then !isE a (.bl k) else isE a (.bl k)))) ρ s
  | _ => .no else .no
theorem isE_ok {P : Par} {PV : List V} {σ : L2.St} {z : Z} {H0 : Hp} {x y : V} {a : E} {b : D} (S : SR P PV σ z) (r : ER P σ z H0 x a) (ho : okE a z.ρ z.s = true) (hb : (b = .non ∧ y = .non) ∨ ∃ k, b = .bl k ∧ y = .bl k) : isE a b = decide (x = y) := by
  have refs : ∀ p, x = .ref p → decide (x = y) = false := fun p e => by
    subst e
    rcases hb with ⟨_, rfl⟩ | ⟨k, _, rfl⟩ <;> exact decide_eq_false fun q => by cases q
  cases a with
  | l i =>
    have ho : (con (.l i) z.ρ z.s).isSome = true := ho
    obtain ⟨c, hc⟩ := Option.isSome_iff_exists.mp ho
    obtain ⟨p, e, _⟩ := con_ok S r hc
    rw [refs p e]
    cases b <;> rfl
  | f c =>
    obtain ⟨p, e, _⟩ := r
    rw [refs p e]
    cases b <;> rfl
  | v d =>
    have r' : Rep P z.F z.m x d := r
    rcases hb with ⟨rfl, rfl⟩ | ⟨k, rfl, rfl⟩
    · cases r' <;> first | rfl | exact (decide_eq_false fun q => by cases q).symm
    · cases r' with
      | bl b => show (b == k) = _; cases b <;> cases k <;> rfl
      | _ => first | rfl | exact (decide_eq_false fun q => by cases q).symm
section
variable {P : Par} {PV : List V} {W : WX}
theorem opd_is {neg : Bool} : OpD P PV W (gIs neg) (rIsV neg) := by
  intro σ z H1 H2 x y a b Q S ra rb A
  unfold gIs at A
  split at A
  · rename_i ho
    split at A
    · cases rb.non
      rw [isE_ok (b := .non) (y := .non) S ra ho (.inl ⟨rfl, rfl⟩)] at A
      exact ⟨.inl rfl, acc_val S (.bl _) A⟩
    · rename_i k
      cases rb.bl
      rw [isE_ok (b := .bl k) (y := .bl k) S ra ho (.inr ⟨k, rfl, rfl⟩)] at A
      exact ⟨.inr ⟨_, rfl⟩, acc_val S (.bl _) A⟩
    · exact A.elim
  · exact A.elim
end
/-! ### in, not in: texts, plain items -/
def toV : D → Option V
  | .non => some .non
  | .bl b => some (.bl b)
  | .int i => some (.int i)
  | .str x => some (.str x)
  | _ => none
theorem toV_ok {P : Par} {F : Hp} {m : List Addr} {v u : V} {d : D} (r : Rep P F m v d) (h : toV d = some u) : v = u ∧ flatV u = true := by
  cases d <;> first
    | (cases h; cases r; exact ⟨rfl, rfl⟩)
    | cases h
theorem toVs_ok {P : Par} {F : Hp} {m : List Addr} : ∀ {vs us : List V} {ds : List D}, RepL P F m vs ds → mapO toV ds = some us → vs = us ∧ us.all flatV = true
  | _, _, _, .nil, h => by cases h; exact ⟨rfl, rfl⟩
  | _, _, _, .cons (d := d) (ds := ds) r l, h => by
    unfold mapO at h
    cases h1 : toV d with
    | none => rw [h1] at h; cases h
    | some u =>
      cases h2 : mapO toV ds with
      | none => rw [h1, h2] at h; cases h
      | some us =>
        rw [h1, h2] at h
        cases h
        obtain ⟨e1, e2⟩ := toV_ok r h1
        obtain ⟨e3, e4⟩ := toVs_ok l h2
        exact ⟨by rw [e1, e3], by rw [List.all_cons, e2, e4]; rfl⟩
def flip (neg b : Bool) : Bool := if neg then !b else b
/-- a text in a text -/
def inT (x y : Str) : Bool := !(Builtin.Str.occurrences y x 0 y.length 1).isEmpty
def gIn (neg : Bool) (a b : E) : M E := fun ρ s => match a, b with
  | .v (.str x), .v (.str y) => .ok (.v (.bl (flip neg (inT x y)))) ρ s
  | .v d, b => match itemsE b ρ s with
    | some (_, ds) => match toV d, mapO toV ds with
      | some v, some vs => .ok (.v (.bl (flip neg (inV v vs)))) ρ s
      | _, _ => match pyE (.v d) ρ s, pyE b ρ s with
        | some p, some (.list ps) => if SeqAt.shaped p = true ∧ SeqAt.shaped (.list ps) = true then .ok (.v (.bl (flip neg (ps.any fun z => PyData.eqv z p)))) ρ s else .no
        | _, _ => .no
    | none => .no
  | _, _ => .no
def rInA (K : PySem.W.Frag) (neg : Bool) : R2 := fun x y H Q => ((∃ i j, x = .str i ∧ y = .str j ∧ Q (.bl (flip neg (inT i j))) H) ∨ rIn K neg x y H Q) ∨ (if neg = true then rNotInD K x y H Q else rInD K x y H Q)
theorem op_inA {X : Cx} (hu : X.A.units + 65 < cLine) : OpR X (compareOp .In) (rInA X.K false) := OpR.or (OpR.or op_in_str op_in_seq) (op_inD hu)
theorem op_notInA {X : Cx} (hu : X.A.units + 65 < cLine) : OpR X (compareOp .NotIn) (rInA X.K true) := OpR.or (OpR.or op_notIn_str op_notIn_seq) (op_notInD hu)
section
variable {P : Par} {PV : List V} {W : WX}
theorem opd_in {neg : Bool} {K : PySem.W.Frag} (hK : P.K = K) : OpD P PV W (gIn neg) (rInA K neg) := by
  subst hK
  intro σ z H1 H2 x y a b Q S ra rb A
  unfold gIn at A
  split at A
  · cases ra.str
    cases rb.str
    exact .inl (.inl ⟨_, _, rfl, rfl, acc_val S (.bl _) A⟩)
  · rename_i d _
    split at A
    · rename_i bb ds hi
      split at A
      · rename_i v vs hd hds
        obtain ⟨p, us, rfl, h1, l⟩ := itemsE_any S rb hi
        obtain ⟨e1, e2⟩ := toV_ok (show Rep P z.F z.m x _ from ra) hd
        obtain ⟨e3, e4⟩ := toVs_ok l hds
        subst e1 e3
        exact .inl (.inr ⟨p, us, rfl, h1, e2, e4, acc_val S (.bl _) A⟩)
      · split at A
        · rename_i q ps hq hp
          split at A
          · rename_i hs
            refine .inr ?_
            have h1 := pyE_ok S ra hq
            have h2 := pyE_ok S rb hp
            cases neg with
            | true =>
              rw [if_pos rfl]
              exact ⟨q, ps, h1, h2, hs.1, hs.2, acc_val S (.bl _) A⟩
            | false =>
              rw [if_neg Bool.false_ne_true]
              exact ⟨q, ps, h1, h2, hs.1, hs.2, acc_val S (.bl _) A⟩
          · exact A.elim
        · exact A.elim
    · exact A.elim
  · exact A.elim
end
section
variable {X : Cx} {G : Str → Addr} {PV : List V} {W : WX} {a b c : Expr} {fa fb fc : M E} {pos : Pos}
theorem de_is (ha : PE X a (LE (pk X G) PV W fa)) (hb : PE X b (LE (pk X G) PV W fb)) : PE X (.Compare a [.Is] [b] pos) (LE (pk X G) PV W (eBin (gIs false) fa fb)) := de_cmp op_isV opd_is ha hb (nomark _)
theorem de_isnot (ha : PE X a (LE (pk X G) PV W fa)) (hb : PE X b (LE (pk X G) PV W fb)) : PE X (.Compare a [.IsNot] [b] pos) (LE (pk X G) PV W (eBin (gIs true) fa fb)) := de_cmp op_notV opd_is ha hb (nomark _)
theorem dt_is (ha : PE X a (LE (pk X G) PV W fa)) (hb : PE X b (LE (pk X G) PV W fb)) : PT X (.Compare a [.Is] [b] pos) (LT (pk X G) PV W (tB (eBin (gIs false) fa fb))) := dt_cmp op_isV opd_is ha hb (nomark _)
theorem dt_isnot (ha : PE X a (LE (pk X G) PV W fa)) (hb : PE X b (LE (pk X G) PV W fb)) : PT X (.Compare a [.IsNot] [b] pos) (LT (pk X G) PV W (tB (eBin (gIs true) fa fb))) := dt_cmp op_notV opd_is ha hb (nomark _)
theorem de_in (hu : X.A.units + 65 < cLine) (ha : PE X a (LE (pk X G) PV W fa)) (hb : PE X b (LE (pk X G) PV W fb)) (hm : behindInMarks .In b = false := by rfl) : PE X (.Compare a [.In] [b] pos) (LE (pk X G) PV W (eBin (gIn false) fa fb)) := de_cmp (op_inA hu) (opd_in rfl) ha hb hm
theorem de_notin (hu : X.A.units + 65 < cLine) (ha : PE X a (LE (pk X G) PV W fa)) (hb : PE X b (LE (pk X G) PV W fb)) (hm : behindInMarks .NotIn b = false := by rfl) : PE X (.Compare a [.NotIn] [b] pos) (LE (pk X G) PV W (eBin (gIn true) fa fb)) := de_cmp (op_notInA hu) (opd_in rfl) ha hb hm
theorem dt_in (hu : X.A.units + 65 < cLine) (ha : PE X a (LE (pk X G) PV W fa)) (hb : PE X b (LE (pk X G) PV W fb)) (hm : behindInMarks .In b = false := by rfl) : PT X (.Compare a [.In] [b] pos) (LT (pk X G) PV W (tB (eBin (gIn false) fa fb))) := dt_cmp (op_inA hu) (opd_in rfl) ha hb hm
theorem dt_notin (hu : X.A.units + 65 < cLine) (ha : PE X a (LE (pk X G) PV W fa)) (hb : PE X b (LE (pk X G) PV W fb)) (hm : behindInMarks .NotIn b = false := by rfl) : PT X (.Compare a [.NotIn] [b] pos) (LT (pk X G) PV W (tB (eBin (gIn true) fa fb))) := dt_cmp (op_notInA hu) (opd_in rfl) ha hb hm
/-! chains of two -/
def blK : E → Option Bool
  | .v (.bl b) => some b
  | _ => none
theorem blK_ok {P : Par} {σ : L2.St} {z : Z} {H0 : Hp} {v : V} {e : E} {b : Bool} (r : ER P σ z H0 v e) (h : blK e = some b) : v = .bl b := by
  cases e with
  | v d =>
    cases d with
    | bl c => cases h; exact r.bl
    | _ => cases h
  | _ => cases h
def chainK (m : M E) (k : E) : M E := fun ρ s => match blK k with
  | some true => m ρ s
  | some false => .ok (.v (.bl false)) ρ s
  | none => .no
def eChain (g g' : E → E → M E) (fa fb fc : M E) : M E := M.bind fa fun a => M.bind fb fun b => M.bind (g a b) (chainK (M.bind fc fun c => g' b c))
theorem chain_imp {P : Par} {g g' : E → E → M E} {r r' : R2} (h : OpD P PV W g r) (h' : OpD P PV W g' r') : ∀ σ H Q, LE P PV W (eChain g g' fa fb fc) σ H Q → tChain r r' (LE P PV W fa) (LE P PV W fb) (LE P PV W fc) σ H Q := fun σ H Q hq =>
  le_bind (rel := fun H => erel P σ H) (fun k q => erel_org k q) hq fun z1 v1 e1 S1 r1 A1 => by
    refine ⟨z1, rfl, S1, ?_⟩
    rw [bind_eq] at A1
    cases hf : fb z1.ρ z1.s with
    | no => rw [hf] at A1; exact A1.elim
    | ex c ns vs ρ s => rw [hf] at A1; exact A1
    | ok e2 ρ s =>
      rw [hf] at A1
      intro v2 F H2 m x S2 r2
      have A2 : Acc P PV W σ ⟨F, H2, m, ρ, s⟩ (erel P σ H2) (M.bind (g e1 e2) (chainK (M.bind fc fun c => g' e2 c)) ρ s) Q := A1.later S1 x fun z2 b y _ q => erel_org (fun a ha => x.kn ha) q
      refine h σ ⟨F, H2, m, ρ, s⟩ _ _ v1 v2 e1 e2 _ S2 (r1.up S1 x) r2 ?_
      rw [bind_eq] at A2
      cases hg : g e1 e2 ρ s with
      | no => rw [hg] at A2; exact A2.elim
      | ex c ns vs ρ s => rw [hg] at A2; exact A2
      | ok k ρ3 s3 =>
        rw [hg] at A2
        intro v3 F3 H3 m3 x3 S3 r3
        have A3 : Acc P PV W σ ⟨F, H2, m, ρ, s⟩ (erel P σ H2) (match blK k with | some true => M.bind fc (fun c => g' e2 c) ρ3 s3 | some false => .ok (.v (.bl false)) ρ3 s3 | none => .no) Q := A2
        clear A2 hg
        cases hk : blK k with
        | none => rw [hk] at A3; exact A3.elim
        | some b =>
          rw [hk] at A3
          refine ⟨b, blK_ok r3 hk, ?_⟩
          cases b with
          | false => rw [if_neg Bool.false_ne_true]; exact A3 (.bl false) F3 H3 m3 x3 S3 (Rep.bl false)
          | true =>
            rw [if_pos rfl]
            have A4 : Acc P PV W σ ⟨F3, H3, m3, ρ3, s3⟩ (erel P σ H3) (M.bind fc (fun c => g' e2 c) ρ3 s3) Q := A3.later S2 x3 fun z2 b y _ q => erel_org (fun a ha => x3.kn ha) q
            refine ⟨⟨F3, H3, m3, ρ3, s3⟩, rfl, S3, ?_⟩
            rw [bind_eq] at A4
            cases hc : fc ρ3 s3 with
            | no => rw [hc] at A4; exact A4.elim
            | ex c ns vs ρ s => rw [hc] at A4; exact A4
            | ok e4 ρ4 s4 =>
              rw [hc] at A4
              intro v4 F4 H4 m4 x4 S4 r4
              exact h' σ ⟨F4, H4, m4, ρ4, s4⟩ _ _ v2 v4 e2 e4 Q S4 ((r2.up S2 x3).up S3 x4) r4 (A4.later S3 x4 fun z2 b y _ q => erel_org (fun a ha => x4.kn ha) q)
theorem de_chain {op op' : CmpOp} {P : Par} {g g' : E → E → M E} {r r' : R2} (ho : OpR X (compareOp op) r) (h : OpD P PV W g r) (ho' : OpR X (compareOp op') r') (h' : OpD P PV W g' r') (ha : PE X a (LE P PV W fa)) (hb : PE X b (LE P PV W fb)) (hc : PE X c (LE P PV W fc))
    (hm : lastMarks [op, op'] [b, c] = false := by with_unfolding_all rfl) : PE X (.Compare a [op, op'] [b, c] pos) (LE P PV W (eChain g g' fa fb fc)) := PEi (pe_chain ho ho' ha hb hc hm) (chain_imp h h')
theorem dt_chain {op op' : CmpOp} {P : Par} {g g' : E → E → M E} {r r' : R2} (ho : OpR X (compareOp op) r) (h : OpD P PV W g r) (ho' : OpR X (compareOp op') r') (h' : OpD P PV W g' r') (ha : PE X a (LE P PV W fa)) (hb : PE X b (LE P PV W fb)) (hc : PE X c (LE P PV W fc))
    (hm : lastMarks [op, op'] [b, c] = false := by with_unfolding_all rfl) : PT X (.Compare a [op, op'] [b, c] pos) (LT P PV W (tB (eChain g g' fa fb fc))) := by
  refine PTi (pt_chain ho ho' ha hb hc hm) fun σ H Q hq => ?_
  refine chain_imp h h' σ H _ (le_bind (rel := fun _ => trel) trel_org hq fun z1 v e S r A => ?_)
  rw [← M.bind_pure (blE e)] at A
  obtain ⟨b, h1, A'⟩ := tb_acc r A
  exact ⟨b, h1, A' b z1.F z1.H z1.m EX.refl S rfl⟩
abbrev cLt : E → E → M E := gC fun i j => decide (i < j)
abbrev cLe : E → E → M E := gC fun i j => decide (i ≤ j)
abbrev cGt : E → E → M E := gC fun i j => decide (j < i)
abbrev cGe : E → E → M E := gC fun i j => decide (j ≤ i)
end
end DL
set_option Elab.async false
set_option linter.all false
set_option maxRecDepth 100000
set_option maxHeartbeats 4000000
/-! DL19: slices, attributes, stores, told things, dicts. -/
namespace DL
open PySem L2 PySem.Spec PyProof.Rows

/-! ### slices -/
def cutD (xs : List D) (lo hi : Option Int) : List D := (xs.drop (HT.sIx xs.length 0 lo)).take (HT.sIx xs.length xs.length hi - HT.sIx xs.length 0 lo)
theorem RepL.cut {P : Par} {F : Hp} {m : List Addr} {vs : List V} {ds : List D} (h : RepL P F m vs ds) (lo hi : Option Int) : RepL P F m (cutV vs lo hi) (cutD ds lo hi) := by
  unfold cutV cutD
  rw [h.length]
  exact (h.drop _).take _
/-- a part of a slice -/
def oNo : M (Option Int) := M.pure none
def oAt (f : M E) : M (Option Int) := M.bind f fun e ρ s => match e with
  | .v (.int i) => .ok (some i) ρ s
  | _ => .no
def LO (P : Par) (PV : List V) (W : WX) (f : M (Option Int)) : TO := fun σ H Q => ∃ z : Z, z.H = H ∧ SR P PV σ z ∧ Acc P PV W σ z (fun _ b c => b = c) (f z.ρ z.s) Q
theorem POi {X : Cx} {e : Option Expr} {t t' : TO} (h : PO X e t) (k : ∀ σ H Q, t' σ H Q → t σ H Q) : PO X e t' := ⟨fun pins s σ H Q I w => h.run pins s σ H Q I (k σ H Q w)⟩
def gCut (a : E) (lo hi : Option Int) : M E := fun ρ s => match a with
  | .v (.str x) => if x.length ≤ sizeLine then .ok (.v (.str (Txt.slice x lo hi))) ρ s else .no
  | a => match itemsE a ρ s with
    | some (true, xs) => .ok (.v (.tup (cutD xs lo hi))) ρ s
    | some (false, xs) => .ok (.f (.lst (cutD xs lo hi))) ρ s
    | none => .no
/-- a kept tuple, cut at no end, is itself -/
def gCutOk (a : E) (lo hi : Option Int) (ρ : List Sl) (s : List Cl) : Bool := match a with
  | .v (.kt xs) => !(HT.sIx xs.length 0 lo == 0 && HT.sIx xs.length xs.length hi == xs.length)
  | _ => true
def eSl (fa : M E) (lo hi : M (Option Int)) : M E := M.bind fa fun a => M.bind lo fun l => M.bind hi fun h ρ s => if gCutOk a l h ρ s = true then gCut a l h ρ s else .no
def rSlAll (K : PySem.W.Frag) : V → Option Int → Option Int → Hp → VK → Prop := fun x lo hi H Q => (C8.rSlX x lo hi H Q ∨ rSlL K x lo hi H Q) ∨ rSlA K x lo hi H Q
theorem sl_every {X : Cx} : L2.SlR X (rSlAll X.K) := L2.SlR.or (L2.SlR.or C8.sl_txt sl_list) sl_tupA
theorem cutD_all {xs : List D} {lo hi : Option Int} (h : HT.sIx xs.length 0 lo = 0 ∧ HT.sIx xs.length xs.length hi = xs.length) : cutD xs lo hi = xs := by
  unfold cutD
  rw [h.1, h.2, List.drop_zero, Nat.sub_zero, List.take_length]
theorem itemsE_true {a : E} {ρ : List Sl} {s : List Cl} {xs : List D} (h : itemsE a ρ s = some (true, xs)) : a = .v (.tup xs) ∨ a = .v (.kt xs) := by
  have other : (match con a ρ s with | some (.lst xs) => some (false, xs) | _ => none) = some (true, xs) → False := fun h => by
    split at h <;> cases h
  cases a with
  | l i => exact (other h).elim
  | f c => exact (other h).elim
  | v d =>
    cases d with
    | tup ys => cases h; exact .inl rfl
    | kt ys => cases h; exact .inr rfl
    | scr ns => cases h
    | _ => exact (other h).elim
section
variable {P : Par} {PV : List V} {W : WX}
theorem cut_ok {σ : L2.St} {z : Z} {H0 : Hp} {x : V} {a : E} {lo hi : Option Int} {Q : VK} (S : SR P PV σ z) (ra : ER P σ z H0 x a) (A : Acc P PV W σ z (erel P σ z.H) (if gCutOk a lo hi z.ρ z.s = true then gCut a lo hi z.ρ z.s else .no) Q) : rSlAll P.K x lo hi z.H Q := by
  by_cases ho : gCutOk a lo hi z.ρ z.s = true
  · rw [if_pos ho] at A
    have other : Acc P PV W σ z (erel P σ z.H) (match itemsE a z.ρ z.s with
      | some (true, xs) => .ok (.v (.tup (cutD xs lo hi))) z.ρ z.s
      | some (false, xs) => .ok (.f (.lst (cutD xs lo hi))) z.ρ z.s
      | none => .no) Q → rSlAll P.K x lo hi z.H Q := fun A => by
      cases hi' : itemsE a z.ρ z.s with
      | none => rw [hi'] at A; exact A.elim
      | some bx =>
        obtain ⟨b, xs⟩ := bx
        rw [hi'] at A
        obtain ⟨p, vs, rfl, h1, l⟩ := itemsE_ok S ra hi'
        cases b with
        | false =>
          rw [if_neg Bool.false_ne_true] at h1
          exact .inl (.inr ⟨p, vs, rfl, h1, fun q hq => acc_newL S hq (l.cut lo hi) A⟩)
        | true =>
          rw [if_pos rfl] at h1
          refine .inr ⟨p, vs, rfl, h1, fun hw => ?_, fun _ q hq => acc_newT S hq (l.cut lo hi) A⟩
          rw [l.length] at hw
          rcases itemsE_true hi' with rfl | rfl
          · have A' : Acc P PV W σ z (erel P σ z.H) (.ok (.v (.tup (cutD xs lo hi))) z.ρ z.s) Q := A
            rw [cutD_all hw] at A'
            exact acc_er (z := z) (e := .v (.tup xs)) S ra A'
          · exfalso
            have ho' : (!(HT.sIx xs.length 0 lo == 0 && HT.sIx xs.length xs.length hi == xs.length)) = true := ho
            rw [hw.1, hw.2] at ho'
            simp at ho'
    cases a with
    | l i => exact other A
    | f c => exact other A
    | v d =>
      cases d with
      | str u =>
        have A' : Acc P PV W σ z (erel P σ z.H) (if u.length ≤ sizeLine then .ok (.v (.str (Txt.slice u lo hi))) z.ρ z.s else .no) Q := A
        by_cases hz : u.length ≤ sizeLine
        · rw [if_pos hz] at A'
          cases ra.str
          exact .inl (.inl ⟨u, rfl, hz, acc_val S (.str _) A'⟩)
        · rw [if_neg hz] at A'; exact A'.elim
      | _ => exact other A
  · rw [if_neg ho] at A; exact A.elim
end
section
variable {X : Cx} {G : Str → Addr} {PV : List V} {W : WX} {a e : Expr} {lo hi : Option Expr} {fa fe : M E} {fl fh : M (Option Int)} {pos p2 : Pos}
theorem do_none {P : Par} : PO X none (LO P PV W oNo) := POi po_none fun σ H Q ⟨z, e, S, A⟩ => by subst e; exact A none z.F z.H z.m EX.refl S rfl
theorem do_some {P : Par} (h : PE X e (LE P PV W fe)) : PO X (some e) (LO P PV W (oAt fe)) := POi (po_some h) fun σ H Q hq => le_bind (rel := fun _ _ b c => b = c) (fun _ q => q) hq fun z1 v e1 S r A => by
  split at A
  · cases r.int; exact ⟨_, rfl, A _ z1.F z1.H z1.m EX.refl S rfl⟩
  · exact A.elim
theorem lo_bind {P : Par} {σ : L2.St} {H : Hp} {α β : Type} {f : M (Option Int)} {k : Option Int → M α} {rel : Hp → Z → β → α → Prop} {Q : β → Hp → Prop} {Q1 : Option Int → Hp → Prop} (hr : ∀ {H0 H1 : Hp} {z : Z} {b : β} {x : α}, (∀ a, H1 a = none → H0 a = none) → rel H1 z b x → rel H0 z b x)
    (z : Z) (hz : z.H = H) (S : SR P PV σ z) (A : Acc P PV W σ z (rel H) (M.bind f k z.ρ z.s) Q) (hk : ∀ z1 i, EX σ z σ z1 → SR P PV σ z1 → Acc P PV W σ z1 (rel z1.H) (k i z1.ρ z1.s) Q → Q1 i z1.H) : LO P PV W f σ H Q1 := by
  subst hz
  refine ⟨z, rfl, S, ?_⟩
  unfold M.bind at A
  cases hf : f z.ρ z.s with
  | no => rw [hf] at A; exact A.elim
  | ex c ns vs ρ s => rw [hf] at A; exact A
  | ok e ρ s =>
    rw [hf] at A
    intro i F H1 m x S1 r
    have r : i = e := r
    subst r
    exact hk ⟨F, H1, m, ρ, s⟩ i x S1 (A.later S x fun z2 b y _ q => hr (fun a ha => x.kn ha) q)
theorem de_sl (ha : PE X a (LE (pk X G) PV W fa)) (hl : PO X lo (LO (pk X G) PV W fl)) (hh : PO X hi (LO (pk X G) PV W fh)) : PE X (.Subscript a (.Slice lo hi none p2) pos) (LE (pk X G) PV W (eSl fa fl fh)) :=
  PEi (pe_slice sl_every ha hl hh) fun σ H Q hq => le_bind (rel := fun H => erel (pk X G) σ H) (fun k q => erel_org k q) hq fun z1 v1 e1 S1 r1 A1 =>
    lo_bind (rel := fun H => erel (pk X G) σ H) (fun k q => erel_org k q) z1 rfl S1 A1 fun z2 l x2 S2 A2 =>
      lo_bind (rel := fun H => erel (pk X G) σ H) (fun k q => erel_org k q) z2 rfl S2 A2 fun z3 h x3 S3 A3 => cut_ok S3 ((r1.up S1 x2).up S2 x3) A3
end

/-! ### pairs: attributes by name, entries by key -/
section
variable {κ : Type} {P : Par} {F : Hp} {m : List Addr}
inductive KRel (P : Par) (F : Hp) (m : List Addr) : List (κ × V) → List (κ × D) → Prop
  | nil : KRel P F m [] []
  | cons {k : κ} {v : V} {d : D} {ps : List (κ × V)} {qs : List (κ × D)} : Rep P F m v d → KRel P F m ps qs → KRel P F m ((k, v) :: ps) ((k, d) :: qs)
theorem KRel.zip : ∀ {ks : List κ} {vs : List V} {ds : List D}, RepL P F m vs ds → KRel P F m (ks.zip vs) (ks.zip ds)
  | [], _, _, _ => .nil
  | _ :: _, _, _, .nil => .nil
  | _ :: _, _, _, .cons r l => .cons r (KRel.zip l)
theorem KRel.split : ∀ {ps : List (κ × V)} {qs : List (κ × D)}, KRel P F m ps qs → ps = (qs.map (·.1)).zip (ps.map (·.2)) ∧ (qs.map (·.1)).length = (ps.map (·.2)).length ∧ RepL P F m (ps.map (·.2)) (qs.map (·.2))
  | _, _, .nil => ⟨rfl, rfl, .nil⟩
  | _, _, .cons r l => by
    obtain ⟨h1, h2, h3⟩ := KRel.split l
    exact ⟨by simp only [List.map_cons, List.zip_cons_cons]; rw [← h1], by simp [h2], .cons r h3⟩
theorem KRel.append : ∀ {ps ps' : List (κ × V)} {qs qs' : List (κ × D)}, KRel P F m ps qs → KRel P F m ps' qs' → KRel P F m (ps ++ ps') (qs ++ qs')
  | _, _, _, _, .nil, h => h
  | _, _, _, _, .cons r l, h => .cons r (KRel.append l h)
end
/-- an entry by its key; a new one, or in its place -/
def getG {κ : Type} [DecidableEq κ] (kvs : List (κ × D)) (k : κ) : Option D := (kvs.find? fun kv => decide (kv.1 = k)).map (·.2)
def putG {κ : Type} [DecidableEq κ] (kvs : List (κ × D)) (k : κ) (v : D) : List (κ × D) :=
  if (kvs.any fun kv => decide (kv.1 = k)) = true then kvs.map (fun kv => if kv.1 = k then (kv.1, v) else kv) else kvs ++ [(k, v)]
def putN (f : Str) (v : D) : List (Str × D) → List (Str × D)
  | [] => [(f, v)]
  | (g, x) :: r => if g = f then (g, v) :: r else (g, x) :: putN f v r
section
variable {κ : Type} [DecidableEq κ] {P : Par} {F : Hp} {m : List Addr}
theorem KRel.get {k : κ} : ∀ {ps : List (κ × V)} {qs : List (κ × D)}, KRel P F m ps qs → (getG qs k = none ∧ valV ps k = none) ∨ ∃ v d, getG qs k = some d ∧ valV ps k = some v ∧ Rep P F m v d
  | _, _, .nil => .inl ⟨rfl, rfl⟩
  | _, _, .cons (k := k') (v := v) (d := d) (ps := ps) (qs := qs) r l => by
    by_cases e : k' = k
    · refine .inr ⟨v, d, ?_, ?_, r⟩
      · simp [getG, List.find?_cons, e]
      · simp [valV, List.find?_cons, e]
    · have h1 : getG ((k', d) :: qs) k = getG qs k := by simp [getG, List.find?_cons, e]
      have h2 : valV ((k', v) :: ps) k = valV ps k := by simp [valV, List.find?_cons, e]
      rw [h1, h2]
      exact KRel.get l
theorem KRel.any {k : κ} : ∀ {ps : List (κ × V)} {qs : List (κ × D)}, KRel P F m ps qs → (ps.any fun kv => decide (kv.1 = k)) = (qs.any fun kv => decide (kv.1 = k))
  | _, _, .nil => rfl
  | _, _, .cons r l => by rw [List.any_cons, List.any_cons, KRel.any l]
theorem KRel.mapPut {k : κ} {v : V} {d : D} (r : Rep P F m v d) : ∀ {ps : List (κ × V)} {qs : List (κ × D)}, KRel P F m ps qs → KRel P F m (ps.map fun kv => if kv.1 = k then (kv.1, v) else kv) (qs.map fun kv => if kv.1 = k then (kv.1, d) else kv)
  | _, _, .nil => .nil
  | _, _, .cons (k := k') r' l => by
    rw [List.map_cons, List.map_cons]
    by_cases e : k' = k
    · simp only [e, if_true]
      exact .cons r (KRel.mapPut r l)
    · simp only [e, if_false]
      exact .cons r' (KRel.mapPut r l)
theorem KRel.put {k : κ} {v : V} {d : D} {ps : List (κ × V)} {qs : List (κ × D)} (r : Rep P F m v d) (h : KRel P F m ps qs) : KRel P F m (putK ps k v) (putG qs k d) := by
  unfold putK putG
  rw [h.any]
  by_cases e : (qs.any fun kv => decide (kv.1 = k)) = true
  · rw [if_pos e, if_pos e]; exact h.mapPut r
  · rw [if_neg e, if_neg e]; exact h.append (.cons r .nil)
theorem KRel.length {ps : List (κ × V)} {qs : List (κ × D)} (h : KRel P F m ps qs) : ps.length = qs.length := by
  have := h.split.2.1
  simpa using this.symm
end
theorem KRel.lookup {P : Par} {F : Hp} {m : List Addr} {f : Str} : ∀ {ps : List (Str × V)} {qs : List (Str × D)} {d : D}, KRel P F m ps qs → qs.lookup f = some d → ∃ v, ps.lookup f = some v ∧ Rep P F m v d
  | _, _, _, .nil, h => by cases h
  | _, _, d, .cons (k := k) (v := v) (d := d0) (ps := ps) (qs := qs) r l, h => by
    rw [List.lookup_cons] at h ⊢
    cases e : f == k with
    | true => rw [e] at h; cases h; exact ⟨v, rfl, r⟩
    | false => rw [e] at h; exact KRel.lookup l h
theorem KRel.putF {P : Par} {F : Hp} {m : List Addr} {f : Str} {v : V} {d : D} (r : Rep P F m v d) : ∀ {ps : List (Str × V)} {qs : List (Str × D)}, KRel P F m ps qs → KRel P F m (L2.putF f v ps) (putN f d qs)
  | _, _, .nil => .cons r .nil
  | _, _, .cons (k := k) r' l => by
    unfold L2.putF putN
    by_cases e : k = f
    · rw [if_pos e, if_pos e]; exact .cons r l
    · rw [if_neg e, if_neg e]; exact .cons r' (KRel.putF r l)

/-! ### attributes -/
/-- what is known of the classes whose instances are read -/
structure Attrs (K : PySem.W.Frag) (G : Str → Addr) (cs : List Str) (f : Str) : Prop where
  cl : ∀ c ∈ cs, Cls K (G c)
  no : ∀ c ∈ cs, NoAttr K (G c) f
def gFld (cs : List Str) (f : Str) (e : E) : M E := fun ρ s => match con e ρ s with
  | some (.ins c ns vs) => if cs.contains c = true then match (ns.zip vs).lookup f with
    | some d => .ok (.v d) ρ s
    | none => .no else .no
  | _ => .no
section
variable {X : Cx} {G : Str → Addr} {PV : List V} {W : WX} {o value : Expr} {fo fv : M E} {f : Str} {pos pos' : Pos} {cs : List Str}
theorem de_fld (hA : Attrs X.K G cs f) (ho : PE X o (LE (pk X G) PV W fo)) (hb : attributeBase o f X.env (eval o X.env) = eval o X.env := by rfl) : PE X (.Attribute o f pos) (LE (pk X G) PV W (M.bind fo (gFld cs f))) :=
  PEi (pe_fld ho hb) fun σ H Q hq => le_bind (rel := fun H => erel (pk X G) σ H) (fun k q => erel_org k q) hq fun z1 v e S r A => by
    unfold gFld at A
    split at A
    · rename_i c ns ds hc
      split at A
      · rename_i hcc
        split at A
        · rename_i d hd
          obtain ⟨a, rfl, dx, vs, hl, ha, l⟩ := con_ok S r hc
          obtain ⟨v, hv, rv⟩ := (KRel.zip (ks := ns) l).lookup hd
          have hm : c ∈ cs := by simpa using hcc
          exact ⟨a, G c, dx, _, v, rfl, ha, hA.cl c hm, hA.no c hm, hv, acc_val S rv A⟩
        · exact A.elim
      · exact A.elim
    · exact A.elim
/-- o.f = value -/
def setFldC (cs : List Str) (f : Str) (d : D) (o : E) : Option Cl → M Fl
  | some (.ins c ns vs) => fun ρ s => if cs.contains c = true ∧ ns.length < 1000 then M.bind (setCon o (.ins c ((putN f d (ns.zip vs)).map (·.1)) ((putN f d (ns.zip vs)).map (·.2)))) (fun _ => sNx) ρ s else .no
  | _ => M.no
def setFld (cs : List Str) (f : Str) (d : D) (o : E) : M Fl := fun ρ s => setFldC cs f d o (conW o ρ s) ρ s
def sFldD (cs : List Str) (f : Str) (fv : M D) (fo : M E) : M Fl := M.bind fv fun d => M.bind fo (setFld cs f d)
theorem les_at {P : Par} {σ : L2.St} {DD : Ends} {f : M E} {k : E → M Fl} {Q1 : VK} (z : Z) (S : SR P PV σ z) (A : AccS P PV W σ z (M.bind f k z.ρ z.s) DD)
    (hk : ∀ z1 v e, EX σ z σ z1 → SR P PV σ z1 → ER P σ z1 z.H v e → AccS P PV W σ z1 (k e z1.ρ z1.s) DD → Q1 v z1.H) : LE P PV W f σ z.H Q1 := by
  refine ⟨z, rfl, S, ?_⟩
  rw [bind_eq] at A
  cases hf : f z.ρ z.s with
  | no => rw [hf] at A; exact A.elim
  | ex c ns vs ρ s => rw [hf] at A; exact fun F H m d e S q => A σ F H m d e S q
  | ok e ρ s =>
    rw [hf] at A
    intro v F H1 m x S1 r
    exact hk ⟨F, H1, m, ρ, s⟩ v e x S1 r (AccS.later S x A)
/-- a thing changes, and that is all: what is asked at the changed heap -/
theorem chg_acc {P : Par} {σ : L2.St} {z : Z} {DD : Ends} {H0 : Hp} {a : Addr} {e : E} {c' : Cl} {o : HO} (S : SR P PV σ z) (r : ER P σ z H0 (.ref a) e) (A : AccS P PV W σ z (M.bind (setCon e c') (fun _ => sNx) z.ρ z.s) DD) (hc : CR P { z with H := upd z.H a o } a c') : DD.nx σ (upd z.H a o) := by
  rw [bind_eq] at A
  cases hs : setCon e c' z.ρ z.s with
  | no => rw [hs] at A; exact A.elim
  | ex c ns vs ρ s => exact (setCon_ex hs).elim
  | ok u ρ s =>
    rw [hs] at A
    obtain ⟨S', x'⟩ := setCon_ok S r hs hc
    exact A σ z.F _ z.m x' S'
theorem ds_fld {fv : M D} (hA : Attrs X.K G cs f) (ho : PE X o (LE (pk X G) PV W fo)) (hv : PE X value (LD (pk X G) PV W fv)) (hs : swapsWith value (some (.Attribute o f pos')) pos.line X.env = pure false := by rfl) : PS X (.Assign [.Attribute o f pos'] value pos) (LS (pk X G) PV W (sFldD cs f fv fo)) :=
  PSi (ps_fld ho hv hs) fun D σ H hq => lds_bind hq fun z0 z1 v d h0 S0 x0 S1 r1 A1 => by
    have A1 := A1.later S0 x0
    refine les_at z1 S1 A1 fun z2 u e x2 S2 r2 A2 => ?_
    unfold setFld at A2
    cases hc : conW e z2.ρ z2.s with
    | none => rw [hc] at A2; exact A2.elim
    | some cl =>
      rw [hc] at A2
      cases cl with
      | lst a => exact A2.elim
      | dk a b => exact A2.elim
      | dt a b => exact A2.elim
      | ins c ns ds =>
        have A3 : AccS (pk X G) PV W σ z2 (if cs.contains c = true ∧ ns.length < 1000 then M.bind (setCon e (.ins c ((putN f d (ns.zip ds)).map (·.1)) ((putN f d (ns.zip ds)).map (·.2)))) (fun _ => sNx) z2.ρ z2.s else .no) D := A2
        by_cases hcc : cs.contains c = true ∧ ns.length < 1000
        · rw [if_pos hcc] at A3
          obtain ⟨a, rfl, dx, us, hl, ha, l⟩ := conW_ok S2 r2 hc
          have hm : c ∈ cs := by simpa using hcc.1
          have r1' := x2.rep r1
          have kr := KRel.putF (f := f) r1' (KRel.zip (ks := ns) l)
          obtain ⟨e1, e2, e3⟩ := kr.split
          refine ⟨a, G c, dx, _, rfl, ha, hA.cl c hm, hA.no c hm, by rw [List.length_zip, ← hl, Nat.min_self]; exact hcc.2, chg_acc S2 r2 A3 ?_⟩
          exact ⟨dx, _, e2, by rw [← e1]; exact upd_same, e3⟩
        · rw [if_neg hcc] at A3; exact A3.elim
/-- o[i] = value, a list -/
def setIxC (i : E) (d : D) (o : E) : Option Cl → M Fl
  | some (.lst xs) => match i with
    | .v (.int k) => match ixN xs.length k with
      | some j => M.bind (setCon o (.lst (xs.set j d))) fun _ => sNx
      | none => M.no
    | _ => M.no
  | _ => M.no
end
end DL
set_option Elab.async false
set_option linter.all false
set_option maxRecDepth 100000
set_option maxHeartbeats 4000000
/-! DL20: stores at an index; dicts; a told thing; isinstance. -/
namespace DL
open PySem L2 PySem.Spec PyProof.Rows

section
variable {P : Par} {PV : List V} {W : WX} {σ : L2.St} {Q : L2.St → Hp → Prop}
theorem leu_at {f : M E} {k : E → M Unit} {Q1 : VK} (z : Z) (S : SR P PV σ z) (A : AccU P PV W σ z (M.bind f k z.ρ z.s) Q)
    (hk : ∀ z1 v e, EX σ z σ z1 → SR P PV σ z1 → ER P σ z1 z.H v e → AccU P PV W σ z1 (k e z1.ρ z1.s) Q → Q1 v z1.H) : LE P PV W f σ z.H Q1 := by
  refine ⟨z, rfl, S, ?_⟩
  rw [bind_eq] at A
  cases hf : f z.ρ z.s with
  | no => rw [hf] at A; exact A.elim
  | ex c ns vs ρ s => rw [hf] at A; exact fun F H m d e S q => A σ F H m d e S q
  | ok e ρ s =>
    rw [hf] at A
    intro v F H1 m x S1 r
    exact hk ⟨F, H1, m, ρ, s⟩ v e x S1 r (AccU.later S x A)
theorem chgU_acc {z : Z} {H0 : Hp} {a : Addr} {e : E} {c' : Cl} {o : HO} (S : SR P PV σ z) (r : ER P σ z H0 (.ref a) e) (A : AccU P PV W σ z (setCon e c' z.ρ z.s) Q) (hc : CR P { z with H := upd z.H a o } a c') : Q σ (upd z.H a o) := by
  cases hs : setCon e c' z.ρ z.s with
  | no => rw [hs] at A; exact A.elim
  | ex c ns vs ρ s => exact (setCon_ex hs).elim
  | ok u ρ s =>
    rw [hs] at A
    obtain ⟨S', x'⟩ := setCon_ok S r hs hc
    exact A σ z.F _ z.m x' S'
end
def setIxV (xs : List D) (d : D) (o : E) : E → M Unit
  | .v (.int k) => fun ρ s => match ixN xs.length k with
    | some j => setCon o (.lst (xs.set j d)) ρ s
    | none => .no
  | _ => M.no
def setIxA (d : D) (o i : E) : M Unit := fun ρ s => match conW o ρ s with
  | some (.lst xs) => setIxV xs d o i ρ s
  | _ => .no
/-- o[i] = the value, a list -/
def setIx (fo fi : M E) (e : E) : M Unit := match e with
  | .v d => M.bind fo fun o => M.bind fi fun i => setIxA d o i
  | _ => M.no
section
variable {X : Cx} {G : Str → Addr} {PV : List V} {W : WX} {o i : Expr} {fo fi : M E} {pos : Pos}
theorem lg_ix (ho : PE X o (LE (pk X G) PV W fo)) (hi : PE X i (LE (pk X G) PV W fi))
    (ha : ∀ v, assign (.Subscript o i pos) X.env v = (do
      let ov ← holding [v] (eval o X.env)
      let iv ← holding [v, ov] (eval i X.env)
      standAt pos
      holding [v, ov, iv] (setItem ov iv v)
      release [v, ov, iv] []) := by intro _; rfl) : PG X (.Subscript o i pos) (LG (pk X G) PV W (setIx fo fi)) :=
  PGi (pg_sub ho hi set_list ha) fun v σ H Q ⟨σ0, z0, z, e, hz, S0, x, S, r, A⟩ => by
    subst hz
    have A := A.later S0 x
    cases e with
    | l i => exact A.elim
    | f c => exact A.elim
    | v d =>
      have A : AccU (pk X G) PV W σ z (M.bind fo (fun o => M.bind fi fun i => setIxA d o i) z.ρ z.s) Q := A
      refine leu_at z S A fun z1 vo eo x1 S1 r1 A1 => leu_at z1 S1 A1 fun z2 vi ei x2 S2 r2 A2 => ?_
      have rd : Rep (pk X G) z2.F z2.m v d := x2.rep (x1.rep r)
      have ro := r1.up S1 x2
      unfold setIxA at A2
      cases hc : conW eo z2.ρ z2.s with
      | none => rw [hc] at A2; exact A2.elim
      | some cl =>
        rw [hc] at A2
        cases cl with
        | dk a b => exact A2.elim
        | dt a b => exact A2.elim
        | ins a b c => exact A2.elim
        | lst xs =>
          have A3 : AccU (pk X G) PV W σ z2 (setIxV xs d eo ei z2.ρ z2.s) Q := A2
          cases ei with
          | l i => exact A3.elim
          | f c => exact A3.elim
          | v di =>
            cases di with
            | int k =>
              cases r2.int
              have A4 : AccU (pk X G) PV W σ z2 (match ixN xs.length k with | some j => setCon eo (.lst (xs.set j d)) z2.ρ z2.s | none => .no) Q := A3
              cases hj : ixN xs.length k with
              | none => rw [hj] at A4; exact A4.elim
              | some j =>
                rw [hj] at A4
                obtain ⟨a, rfl, us, ha, l⟩ := conW_ok S2 ro hc
                exact ⟨a, us, k, j, rfl, rfl, ha, by rw [l.length]; exact hj, chgU_acc S2 ro A4 ⟨_, upd_same, l.set j rd⟩⟩
            | _ => exact A3.elim
end

/-! ### dicts -/
inductive KK where | k (k : Key) | t (k : List Key)
def keyD : D → Option Key
  | .int i => some (.inl i)
  | .str x => some (.inr x)
  | _ => none
def kkD : D → Option KK
  | .int i => some (.k (.inl i))
  | .str x => some (.k (.inr x))
  | .tup xs => (mapO keyD xs).map KK.t
  | _ => none
theorem keyD_ok {P : Par} {F : Hp} {m : List Addr} {v : V} {d : D} {k : Key} (r : Rep P F m v d) (h : keyD d = some k) : v = kV k := by
  cases d <;> first
    | (cases h; cases r; rfl)
    | cases h
theorem keyDs_ok {P : Par} {F : Hp} {m : List Addr} : ∀ {vs : List V} {ds : List D} {ks : List Key}, RepL P F m vs ds → mapO keyD ds = some ks → vs = ks.map kV
  | _, _, _, .nil, h => by cases h; rfl
  | _, _, _, .cons (d := d) (ds := ds) r l, h => by
    unfold mapO at h
    cases h1 : keyD d with
    | none => rw [h1] at h; cases h
    | some u =>
      cases h2 : mapO keyD ds with
      | none => rw [h1, h2] at h; cases h
      | some us =>
        rw [h1, h2] at h
        cases h
        rw [keyD_ok r h1, keyDs_ok l h2]
        rfl
/-- the entry at a key, or none; outer none: not such a dict or key -/
def findK (c : Option Cl) (d : D) : Option (Option D) := match c, kkD d with
  | some (.dk ks vs), some (.k k) => some (getG (ks.zip vs) k)
  | some (.dt ks vs), some (.t k) => some (getG (ks.zip vs) k)
  | _, _ => none
section
variable {P : Par} {PV : List V} {W : WX} {σ : L2.St} {z : Z} {v y : V} {e : E} {d : D} {H0 : Hp}
theorem findK_ok {o : Option D} (S : SR P PV σ z) (r : ER P σ z H0 v e) (ry : Rep P z.F z.m y d) (h : findK (con e z.ρ z.s) d = some o) : ∃ a ov, v = .ref a ∧ DGet z.H a y ov ∧ ((o = none ∧ ov = none) ∨ ∃ u w, o = some w ∧ ov = some u ∧ Rep P z.F z.m u w) := by
  cases hc : con e z.ρ z.s with
  | none => rw [hc] at h; cases h
  | some cl =>
    rw [hc] at h
    cases cl with
    | lst a => cases h
    | ins a b c => cases h
    | dk ks vs =>
      obtain ⟨a, rfl, us, hl, ha, l⟩ := con_ok S r hc
      cases hk : kkD d with
      | none => unfold findK at h; rw [hk] at h; cases h
      | some kk =>
        cases kk with
        | t k => unfold findK at h; rw [hk] at h; cases h
        | k k =>
          unfold findK at h
          rw [hk] at h
          cases h
          have ek : y = kV k := by
            cases d <;> first
              | (cases hk; cases ry; rfl)
              | (cases hk; done)
              | (exfalso; unfold kkD at hk; split at hk <;> cases hk)
              | (exfalso; cases hm : mapO keyD ‹List D› with
                 | none => simp [kkD, hm] at hk
                 | some q => simp [kkD, hm] at hk)
          refine ⟨a, valV (ks.zip us) k, rfl, .inl ⟨_, k, ha, ek, rfl⟩, ?_⟩
          rcases (KRel.zip (ks := ks) l).get (k := k) with ⟨h1, h2⟩ | ⟨u, w, h1, h2, h3⟩
          · exact .inl ⟨h1, h2⟩
          · exact .inr ⟨u, w, h1, h2, h3⟩
    | dt ks vs =>
      obtain ⟨a, rfl, us, hl, ha, l⟩ := con_ok S r hc
      cases hk : kkD d with
      | none => unfold findK at h; rw [hk] at h; cases h
      | some kk =>
        cases kk with
        | k k => unfold findK at h; rw [hk] at h; cases h
        | t k =>
          unfold findK at h
          rw [hk] at h
          cases h
          cases d with
          | tup xs =>
            cases hm : mapO keyD xs with
            | none => simp [kkD, hm] at hk
            | some q =>
              simp [kkD, hm] at hk
              subst hk
              cases ry with
              | @tup b ws _ hb lb =>
                have e := keyDs_ok lb hm
                subst e
                have hb' : z.H b = some (.tup (q.map kV)) := (S.fz b _ hb).elim id fun ⟨x, _⟩ => x.elim
                refine ⟨a, valV (ks.zip us) q, rfl, .inr ⟨_, q, b, ha, rfl, hb', rfl⟩, ?_⟩
                rcases (KRel.zip (ks := ks) l).get (k := q) with ⟨h1, h2⟩ | ⟨u, w, h1, h2, h3⟩
                · exact .inl ⟨h1, h2⟩
                · exact .inr ⟨u, w, h1, h2, h3⟩
          | _ => cases hk
end
end DL
set_option Elab.async false
set_option linter.all false
set_option maxRecDepth 100000
set_option maxHeartbeats 4000000
/-! DL21: dicts in expressions, told things, isinstance, repr. -/
namespace DL
open PySem L2 PySem.Spec PyProof.Rows

/-! ### d[k], k in d, d.get(k, x), d[k] = v, {} -/
def gDGet (a b : E) : M E := fun ρ s => match b with
  | .v d => match findK (con a ρ s) d with
    | some (some w) => .ok (.v w) ρ s
    | _ => .no
  | _ => .no
def gDIn (neg : Bool) (b a : E) : M E := fun ρ s => match b with
  | .v d => match findK (con a ρ s) d with
    | some o => .ok (.v (.bl (flip neg o.isSome))) ρ s
    | none => .no
  | _ => .no
def rDGet : R2 := fun x y H Q => ∃ a v, x = .ref a ∧ DGet H a y (some v) ∧ Q v H
def rDIn (neg : Bool) : R2 := fun y x H Q => ∃ a o, x = .ref a ∧ DGet H a y o ∧ Q (.bl (flip neg o.isSome)) H
section
variable {P : Par} {PV : List V} {W : WX}
theorem opd_dget : OpD P PV W gDGet rDGet := by
  intro σ z H1 H2 x y a b Q S ra rb A
  unfold gDGet at A
  split at A
  · split at A
    · rename_i w hf
      obtain ⟨p, ov, rfl, hg, h⟩ := findK_ok S ra rb hf
      rcases h with ⟨h, _⟩ | ⟨u, w', h1, rfl, h3⟩
      · cases h
      · cases h1
        exact ⟨p, u, rfl, hg, acc_val S h3 A⟩
    · exact A.elim
  · exact A.elim
theorem opd_din {neg : Bool} : OpD P PV W (gDIn neg) (rDIn neg) := by
  intro σ z H1 H2 x y b a Q S rb ra A
  unfold gDIn at A
  split at A
  · split at A
    · rename_i o hf
      obtain ⟨p, ov, rfl, hg, h⟩ := findK_ok S ra rb hf
      have e : o.isSome = ov.isSome := by
        rcases h with ⟨rfl, rfl⟩ | ⟨u, w', rfl, rfl, h3⟩ <;> rfl
      rw [e] at A
      exact ⟨p, ov, rfl, hg, acc_val S (.bl _) A⟩
    · exact A.elim
  · exact A.elim
end
def gDGet2 (a b c : E) : M E := fun ρ s => match b, c with
  | .v d, .v x => match findK (con a ρ s) d with
    | some (some w) => .ok (.v w) ρ s
    | some none => .ok (.v x) ρ s
    | none => .no
  | _, _ => .no
def isDE (a : E) (ρ : List Sl) (s : List Cl) : Bool := match con a ρ s with
  | some (.dk _ _) => true
  | some (.dt _ _) => true
  | _ => false
def eDGet2 (fa fb fc : M E) : M E := M.bind fa fun a ρ s => if isDE a ρ s = true then M.bind fb (fun b => M.bind fc fun c => gDGet2 a b c) ρ s else .no
def setK (c : Option Cl) (d v : D) : Option Cl := match c, kkD d with
  | some (.dk ks vs), some (.k k) => if ks.length < sizeLine then some (.dk ((putG (ks.zip vs) k v).map (·.1)) ((putG (ks.zip vs) k v).map (·.2))) else none
  | some (.dt ks vs), some (.t k) => if ks.length < sizeLine then some (.dt ((putG (ks.zip vs) k v).map (·.1)) ((putG (ks.zip vs) k v).map (·.2))) else none
  | _, _ => none
def putDA (v : D) (o i : E) : M Fl := fun ρ s => match i with
  | .v d => match setK (conW o ρ s) d v with
    | some c => M.bind (setCon o c) (fun _ => sNx) ρ s
    | none => .no
  | _ => .no
def sDPutD (fv : M D) (fo fi : M E) : M Fl := M.bind fv fun v => M.bind fo fun o => M.bind fi fun i => putDA v o i
section
variable {P : Par} {PV : List V} {W : WX} {σ : L2.St} {z : Z} {x y u : V} {e : E} {d w : D} {H0 : Hp} {c : Cl}
/-- the dict behind the store -/
theorem setK_ok (S : SR P PV σ z) (r : ER P σ z H0 x e) (ry : Rep P z.F z.m y d) (rv : Rep P z.F z.m u w) (h : setK (conW e z.ρ z.s) d w = some c) : ∃ a o, x = .ref a ∧ DPut z.H a y u (upd z.H a o) ∧ CR P { z with H := upd z.H a o } a c := by
  cases hc : conW e z.ρ z.s with
  | none => rw [hc] at h; cases h
  | some cl =>
    rw [hc] at h
    cases cl with
    | lst a => cases h
    | ins a b c => cases h
    | dk ks vs =>
      obtain ⟨a, rfl, us, hl, ha, l⟩ := conW_ok S r hc
      cases hk : kkD d with
      | none => unfold setK at h; rw [hk] at h; cases h
      | some kk =>
        cases kk with
        | t k => unfold setK at h; rw [hk] at h; cases h
        | k k =>
          unfold setK at h
          rw [hk] at h
          have h' : (if ks.length < sizeLine then some (Cl.dk ((putG (ks.zip vs) k w).map (·.1)) ((putG (ks.zip vs) k w).map (·.2))) else none) = some c := h
          by_cases hz : ks.length < sizeLine
          · rw [if_pos hz] at h'
            cases h'
            have ek : y = kV k := by
              cases d <;> first
                | (cases hk; cases ry; rfl)
                | (cases hk; done)
                | (exfalso; cases hm : mapO keyD ‹List D› with
                   | none => simp [kkD, hm] at hk
                   | some q => simp [kkD, hm] at hk)
            subst ek
            have kr := (KRel.zip (ks := ks) l).put (k := k) rv
            obtain ⟨e1, e2, e3⟩ := kr.split
            have hzl : (ks.zip us).length < sizeLine := by rw [List.length_zip, ← hl, Nat.min_self]; exact hz
            refine ⟨a, .dK (putK (ks.zip us) k u), rfl, DPut.k ha hzl, _, e2, ?_, e3⟩
            show upd z.H a _ a = _
            rw [← e1]; exact upd_same
          · rw [if_neg hz] at h'; cases h'
    | dt ks vs =>
      obtain ⟨a, rfl, us, hl, ha, l⟩ := conW_ok S r hc
      cases hk : kkD d with
      | none => unfold setK at h; rw [hk] at h; cases h
      | some kk =>
        cases kk with
        | k k => unfold setK at h; rw [hk] at h; cases h
        | t k =>
          unfold setK at h
          rw [hk] at h
          have h' : (if ks.length < sizeLine then some (Cl.dt ((putG (ks.zip vs) k w).map (·.1)) ((putG (ks.zip vs) k w).map (·.2))) else none) = some c := h
          by_cases hz : ks.length < sizeLine
          · rw [if_pos hz] at h'
            cases h'
            cases d with
            | tup xs =>
              cases hm : mapO keyD xs with
              | none => simp [kkD, hm] at hk
              | some q =>
                simp [kkD, hm] at hk
                subst hk
                cases ry with
                | @tup b ws _ hb lb =>
                  have e := keyDs_ok lb hm
                  subst e
                  have hb' : z.H b = some (.tup (q.map kV)) := (S.fz b _ hb).elim id fun ⟨x, _⟩ => x.elim
                  have kr := (KRel.zip (ks := ks) l).put (k := q) rv
                  obtain ⟨e1, e2, e3⟩ := kr.split
                  have hzl : (ks.zip us).length < sizeLine := by rw [List.length_zip, ← hl, Nat.min_self]; exact hz
                  refine ⟨a, .dT (putK (ks.zip us) q u), rfl, DPut.t ha hb' hzl, _, e2, ?_, e3⟩
                  show upd z.H a _ a = _
                  rw [← e1]; exact upd_same
            | _ => cases hk
          · rw [if_neg hz] at h'; cases h'
end
section
variable {X : Cx} {G : Str → Addr} {PV : List V} {W : WX} {o i value e f : Expr} {fo fi fe ff : M E} {fv : M D} {pos pos' apos cpos : Pos}
theorem de_dget (hu : X.A.units + 1 < cLine) (ho : PE X o (LE (pk X G) PV W fo)) (hi : PE X i (LE (pk X G) PV W fi)) (hs : NoSl i := by intro _ _; rfl) : PE X (.Subscript o i pos) (LE (pk X G) PV W (eBin gDGet fo fi)) :=
  PEi (pe_dget hu ho hi hs) (le_bin opd_dget)
theorem de_din (hu : X.A.units + 1 < cLine) (hi : PE X i (LE (pk X G) PV W fi)) (ho : PE X o (LE (pk X G) PV W fo)) (hm : behindInMarks .In o = false := by rfl) : PE X (.Compare i [.In] [o] pos) (LE (pk X G) PV W (eBin (gDIn false) fi fo)) := PEi (pe_cmp (pc_din hu hi ho) hm) (le_bin (opd_din (neg := false)))
theorem de_dnotin (hu : X.A.units + 1 < cLine) (hi : PE X i (LE (pk X G) PV W fi)) (ho : PE X o (LE (pk X G) PV W fo)) (hm : behindInMarks .NotIn o = false := by rfl) : PE X (.Compare i [.NotIn] [o] pos) (LE (pk X G) PV W (eBin (gDIn true) fi fo)) := PEi (pe_cmp (pc_dnotin hu hi ho) hm) (le_bin (opd_din (neg := true)))
theorem din_imp {neg : Bool} : ∀ σ H (Q : Bool → Hp → Prop), LT (pk X G) PV W (tB (eBin (gDIn neg) fi fo)) σ H Q → LE (pk X G) PV W (eBin (gDIn neg) fi fo) σ H (fun x H' => ∃ k, x = .bl k ∧ Q k H') := fun σ H Q hq =>
  le_bind (rel := fun _ => trel) trel_org hq fun z1 v e S r A => by
    rw [← M.bind_pure (blE e)] at A
    obtain ⟨b, h1, A'⟩ := tb_acc r A
    exact ⟨b, h1, A' b z1.F z1.H z1.m EX.refl S rfl⟩
theorem dt_din (hu : X.A.units + 1 < cLine) (hi : PE X i (LE (pk X G) PV W fi)) (ho : PE X o (LE (pk X G) PV W fo)) (hm : behindInMarks .In o = false := by rfl) : PT X (.Compare i [.In] [o] pos) (LT (pk X G) PV W (tB (eBin (gDIn false) fi fo))) := PTi (pt_cmp (pc_din hu hi ho) hm) fun σ H Q hq => le_bin (opd_din (neg := false)) σ H _ (din_imp σ H Q hq)
theorem dt_dnotin (hu : X.A.units + 1 < cLine) (hi : PE X i (LE (pk X G) PV W fi)) (ho : PE X o (LE (pk X G) PV W fo)) (hm : behindInMarks .NotIn o = false := by rfl) : PT X (.Compare i [.NotIn] [o] pos) (LT (pk X G) PV W (tB (eBin (gDIn true) fi fo))) := PTi (pt_cmp (pc_dnotin hu hi ho) hm) fun σ H Q hq => le_bin (opd_din (neg := true)) σ H _ (din_imp σ H Q hq)
theorem isDE_ok {P : Par} {σ : L2.St} {z : Z} {v : V} {e : E} {H0 : Hp} (S : SR P PV σ z) (r : ER P σ z H0 v e) (h : isDE e z.ρ z.s = true) : ∃ a, v = .ref a ∧ IsD z.H a := by
  unfold isDE at h
  split at h
  · rename_i hc
    obtain ⟨a, rfl, us, _, ha, _⟩ := con_ok S r hc
    exact ⟨a, rfl, .inl ⟨_, ha⟩⟩
  · rename_i hc
    obtain ⟨a, rfl, us, _, ha, _⟩ := con_ok S r hc
    exact ⟨a, rfl, .inr ⟨_, ha⟩⟩
  · cases h
theorem le_at {P : Par} {σ : L2.St} {α β : Type} {f : M E} {k : E → M α} {rel : Hp → Z → β → α → Prop} {Q : β → Hp → Prop} {Q1 : VK} (hr : ∀ {H0 H1 : Hp} {z : Z} {b : β} {x : α}, (∀ a, H1 a = none → H0 a = none) → rel H1 z b x → rel H0 z b x)
    (z : Z) (S : SR P PV σ z) (A : Acc P PV W σ z (rel z.H) (M.bind f k z.ρ z.s) Q) (hk : ∀ z1 v e, EX σ z σ z1 → SR P PV σ z1 → ER P σ z1 z.H v e → Acc P PV W σ z1 (rel z1.H) (k e z1.ρ z1.s) Q → Q1 v z1.H) : LE P PV W f σ z.H Q1 := by
  refine ⟨z, rfl, S, ?_⟩
  rw [bind_eq] at A
  cases hf : f z.ρ z.s with
  | no => rw [hf] at A; exact A.elim
  | ex c ns vs ρ s => rw [hf] at A; exact A
  | ok e ρ s =>
    rw [hf] at A
    intro v F H1 m x S1 r
    exact hk ⟨F, H1, m, ρ, s⟩ v e x S1 r (A.later S x fun z2 b y _ q => hr (fun a ha => x.kn ha) q)
theorem de_dget2 (hu : X.A.units + 1 < cLine) (ho : PE X o (LE (pk X G) PV W fo)) (he : PE X e (LE (pk X G) PV W fe)) (hf : PE X f (LE (pk X G) PV W ff)) (m : M2 X o "get" apos e f cpos := by exact ⟨rfl, rfl, rfl, rfl⟩) : PE X (.Call (.Attribute o "get" apos) [e, f] [] cpos) (LE (pk X G) PV W (eDGet2 fo fe ff)) :=
  PEi (pe_dget2 hu ho he hf m) fun σ H Q h => le_bind (rel := fun H => erel (pk X G) σ H) (fun k q => erel_org k q) h fun z1 v1 e1 S1 r1 A1 => by
    by_cases hd : isDE e1 z1.ρ z1.s = true
    · rw [if_pos hd] at A1
      obtain ⟨a, rfl, hI⟩ := isDE_ok S1 r1 hd
      refine ⟨a, rfl, hI, le_at (rel := fun H => erel (pk X G) σ H) (fun k q => erel_org k q) z1 S1 A1 fun z2 v2 e2 x2 S2 r2 A2 => le_at (rel := fun H => erel (pk X G) σ H) (fun k q => erel_org k q) z2 S2 A2 fun z3 v3 e3 x3 S3 r3 A3 => ?_⟩
      have r1' := (r1.up S1 x2).up S2 x3
      have r2' := r2.up S2 x3
      unfold gDGet2 at A3
      split at A3
      · rename_i d x
        split at A3
        · rename_i w hf
          obtain ⟨p, ov, ep, hg, h⟩ := findK_ok S3 r1' r2' hf
          cases ep
          rcases h with ⟨h, _⟩ | ⟨u, w', h1, rfl, h3⟩
          · cases h
          · cases h1
            exact ⟨_, hg, acc_val S3 h3 A3⟩
        · rename_i hf
          obtain ⟨p, ov, ep, hg, h⟩ := findK_ok S3 r1' r2' hf
          cases ep
          rcases h with ⟨_, rfl⟩ | ⟨u, w', h1, rfl, h3⟩
          · exact ⟨_, hg, acc_val S3 r3 A3⟩
          · cases h1
        · exact A3.elim
      · exact A3.elim
    · rw [if_neg hd] at A1; exact A1.elim
theorem ds_dput (hu : X.A.units + 1 < cLine) (ho : PE X o (LE (pk X G) PV W fo)) (hi : PE X i (LE (pk X G) PV W fi)) (hv : PE X value (LD (pk X G) PV W fv)) (hs : swapsWith value (some (.Subscript o i pos')) pos.line X.env = pure false := by rfl) :
    PS X (.Assign [.Subscript o i pos'] value pos) (LS (pk X G) PV W (sDPutD fv fo fi)) :=
  PSi (ps_dput hu ho hi hv hs) fun D σ H hq => lds_bind hq fun z0 z1 v d h0 S0 x0 S1 r1 A1 => by
    have A1 := A1.later S0 x0
    refine les_at z1 S1 A1 fun z2 vo eo x2 S2 r2 A2 => les_at z2 S2 A2 fun z3 vi ei x3 S3 r3 A3 => ?_
    have rv := x3.rep (x2.rep r1)
    have ro := r2.up S2 x3
    unfold putDA at A3
    split at A3
    · rename_i dk
      split at A3
      · rename_i c hs
        obtain ⟨a, ob, rfl, hp, hc⟩ := setK_ok S3 ro r3 rv hs
        exact ⟨a, _, rfl, hp, chg_acc S3 ro A3 hc⟩
      · exact A3.elim
    · exact A3.elim
def eNewK : M E := M.pure (.f (.dk [] []))
def eNewT : M E := M.pure (.f (.dt [] []))
theorem de_newK : PE X (.Dict [] [] pos) (LE (pk X G) PV W eNewK) := PEi pe_dnewK fun σ H Q ⟨z, e, S, A⟩ => by
  subst e
  exact fun p hp => acc_new (c := .dk [] []) S hp ⟨[], rfl, upd_same, .nil⟩ A
theorem de_newT : PE X (.Dict [] [] pos) (LE (pk X G) PV W eNewT) := PEi pe_dnewT fun σ H Q ⟨z, e, S, A⟩ => by
  subst e
  exact fun p hp => acc_new (c := .dt [] []) S hp ⟨[], rfl, upd_same, .nil⟩ A
end
end DL
set_option Elab.async false
set_option linter.all false
set_option maxRecDepth 100000
set_option maxHeartbeats 4000000
/-! DL22: told things, isinstance, repr. -/
namespace DL
open PySem L2 PySem.Spec PyProof.Rows

/-- a thing gets its number -/
def refE : E → M D
  | .v d => M.pure d
  | .f c => fun ρ s => .ok (.ref s.length) ρ (s ++ [c])
  | .l i => fun ρ s => match ρ[i]? with
    | some (.own c) => .ok (.ref s.length) (ρ.set i (.val (.ref s.length))) (s ++ [c])
    | _ => .no
section
variable {P : Par} {PV : List V} {W : WX} {σ : L2.St} {z z0 : Z} {a : Addr} {c : Cl} {v : V} {d : D}
theorem CR.num (h : CR P z a c) (b : Addr) (ρ : List Sl) (s : List Cl) : CR P ⟨z.F, z.H, z.m ++ [b], ρ, s⟩ a c := by
  have q : ∃ r, z.m ++ [b] = z.m ++ r := ⟨[b], rfl⟩
  cases c with
  | lst ds => obtain ⟨vs, e1, e2⟩ := h; exact ⟨vs, e1, e2.mono (fun _ _ h => h) q⟩
  | dk ks ds => obtain ⟨vs, e0, e1, e2⟩ := h; exact ⟨vs, e0, e1, e2.mono (fun _ _ h => h) q⟩
  | dt ks ds => obtain ⟨vs, e0, e1, e2⟩ := h; exact ⟨vs, e0, e1, e2.mono (fun _ _ h => h) q⟩
  | ins n ns ds => obtain ⟨dx, vs, e0, e1, e2⟩ := h; exact ⟨dx, vs, e0, e1, e2.mono (fun _ _ h => h) q⟩
theorem SR.num {ρ' : List Sl} (S : SR P PV σ z) (hf : z.F a = none) (hm : a ∉ z.m) (hc : CR P z a c) (hl : ρ'.length = z.ρ.length)
    (hs : ∀ (j : Nat) x, ρ'[j]? = some x → (z.ρ[j]? = some x ∧ ¬ OwnAt σ z j a) ∨ (x = .val (.ref z.s.length) ∧ σ[j]? = some (some (.ref a)))) :
    SR P PV σ ⟨z.F, z.H, z.m ++ [a], ρ', z.s ++ [c]⟩ ∧ (∀ b, Mu σ ⟨z.F, z.H, z.m ++ [a], ρ', z.s ++ [c]⟩ b → b = a ∨ Mu σ z b) := by
  have ha : (z.m ++ [a])[z.s.length]? = some a := by rw [← S.len]; simp
  have own : ∀ i b, OwnAt σ ⟨z.F, z.H, z.m ++ [a], ρ', z.s ++ [c]⟩ i b → OwnAt σ z i b ∧ b ≠ a := fun i b ⟨⟨c', hc'⟩, e⟩ => by
    rcases hc' with hc' | hc'
    · rcases hs i _ hc' with ⟨q, n⟩ | ⟨q, _⟩
      · have o : OwnAt σ z i b := ⟨⟨c', .inl q⟩, e⟩
        exact ⟨o, fun e2 => n (e2 ▸ o)⟩
      · cases q
    · rcases hs i _ hc' with ⟨q, n⟩ | ⟨q, _⟩
      · have o : OwnAt σ z i b := ⟨⟨c', .inr q⟩, e⟩
        exact ⟨o, fun e2 => n (e2 ▸ o)⟩
      · cases q
  refine ⟨⟨S.fz, by simp [S.len], ?_, fun n b k h1 h2 => ?_, fun i x h => ?_, fun i j b h1 h2 => S.sd i j b (own i b h1).1 (own j b h2).1, by show ρ'.length ≤ _; rw [hl]; exact S.ln⟩, fun b h => ?_⟩
  · show (z.m ++ [a]).Nodup
    rw [List.nodup_append]
    exact ⟨S.nd, by simp, fun x hx y hy => by simp at hy; subst hy; exact fun e => hm (e ▸ hx)⟩
  · have h1 : (z.m ++ [a])[n]? = some b := h1
    have h2 : (z.s ++ [c])[n]? = some k := h2
    by_cases hn : n < z.m.length
    · rw [List.getElem?_append_left hn] at h1
      rw [List.getElem?_append_left (by rw [← S.len]; exact hn)] at h2
      exact ⟨(S.cl n b k h1 h2).1, (S.cl n b k h1 h2).2.num a ρ' _⟩
    · have hn' : n = z.m.length := by
        have := (List.getElem?_eq_some_iff.mp h1).1
        rw [List.length_append] at this
        simp at this
        omega
      subst hn'
      rw [S.len] at h1 h2
      rw [ha] at h1
      cases h1
      simp at h2
      subst h2
      exact ⟨hf, hc.num a ρ' _⟩
  · rcases hs i x h with ⟨q, n⟩ | ⟨rfl, q⟩
    · have r := S.sl i x q
      cases x with
      | no => trivial
      | val d => obtain ⟨v, e1, e2⟩ := r; exact ⟨v, e1, e2.mono (fun _ _ h => h) ⟨[a], rfl⟩⟩
      | own k =>
        obtain ⟨b, e1, e2, e3, e4⟩ := r
        refine ⟨b, e1, e2, fun hb => ?_, e4.num a ρ' _⟩
        have hb : b ∈ z.m ++ [a] := hb
        rcases List.mem_append.mp hb with hb | hb
        · exact e3 hb
        · simp at hb; subst hb; exact n ⟨⟨k, .inl q⟩, e1⟩
      | io k =>
        obtain ⟨b, e1, e0, e2, e3, e4⟩ := r
        refine ⟨b, e1, e0, e2, fun hb => ?_, e4.num a ρ' _⟩
        have hb : b ∈ z.m ++ [a] := hb
        rcases List.mem_append.mp hb with hb | hb
        · exact e3 hb
        · simp at hb; subst hb; exact n ⟨⟨k, .inr q⟩, e1⟩
    · exact ⟨.ref a, q, .ref ha⟩
  · rcases h with h | ⟨i, h⟩
    · have h : b ∈ z.m ++ [a] := h
      rcases List.mem_append.mp h with h | h
      · exact .inr (.inl h)
      · simp at h; exact .inl h
    · exact .inr (.inr ⟨i, (own i b h).1⟩)
theorem acc_ref {e : E} {F H : Hp} {m : List Addr} {ρ : List Sl} {s : List Cl} {Q : VK} (S0 : SR P PV σ z0) (x : EX σ z0 σ ⟨F, H, m, ρ, s⟩) (S : SR P PV σ ⟨F, H, m, ρ, s⟩) (r : ER P σ ⟨F, H, m, ρ, s⟩ z0.H v e)
    (A : Acc P PV W σ z0 (drel P) (refE e ρ s) Q) : Q v H := by
  cases e with
  | v d => exact A v F H m x S r
  | f c =>
    obtain ⟨b, rfl, hf, nm, hn, hc⟩ := r
    obtain ⟨S', mu'⟩ := S.num (ρ' := ρ) hf (fun q => nm (.inl q)) hc rfl fun j y e => .inl ⟨e, fun q => nm (.inr ⟨j, q⟩)⟩
    have hx : (m ++ [b])[s.length]? = some b := by have := S.len; have : m.length = s.length := this; rw [← this]; simp
    refine A (.ref b) F H (m ++ [b]) ⟨x.fs, ?_, x.oth, x.nw, x.kp, fun a h => ?_⟩ S' (.ref hx)
    · obtain ⟨q, e⟩ := x.mp
      have e : m = z0.m ++ q := e
      exact ⟨q ++ [b], by show m ++ [b] = _; rw [e, List.append_assoc]⟩
    · rcases mu' a h with rfl | q
      · exact .inr hn
      · exact x.mu a q
  | l i =>
    have hi : σ[i]? = some (some v) := r
    have A' : Acc P PV W σ z0 (drel P) (match ρ[i]? with | some (.own c) => .ok (.ref s.length) (ρ.set i (.val (.ref s.length))) (s ++ [c]) | _ => .no) Q := A
    clear A
    have A := A'
    clear A'
    cases hρ : ρ[i]? with
    | none => rw [hρ] at A; exact A.elim
    | some y =>
      rw [hρ] at A
      cases y with
      | no => exact A.elim
      | val d => exact A.elim
      | io c => exact A.elim
      | own c =>
        obtain ⟨b, e1, hf, nm, hc⟩ := S.sl i _ hρ
        rw [hi] at e1
        cases e1
        have ow : OwnAt σ ⟨F, H, m, ρ, s⟩ i b := ⟨⟨c, .inl hρ⟩, hi⟩
        have hl : i < ρ.length := (List.getElem?_eq_some_iff.mp hρ).1
        obtain ⟨S', mu'⟩ := S.num (ρ' := ρ.set i (.val (.ref s.length))) hf nm hc (List.length_set ..) fun j y e => by
          by_cases q : j = i
          · subst q
            rw [List.getElem?_set_self hl] at e
            cases e
            exact .inr ⟨rfl, hi⟩
          · rw [List.getElem?_set_ne (Ne.symm q)] at e
            exact .inl ⟨e, fun h => q (S.sd j i b h ow)⟩
        have hx : (m ++ [b])[s.length]? = some b := by have := S.len; have : m.length = s.length := this; rw [← this]; simp
        refine A (.ref b) F H (m ++ [b]) ⟨x.fs, ?_, x.oth, x.nw, x.kp, fun a h => ?_⟩ S' (.ref hx)
        · obtain ⟨q, e⟩ := x.mp
          have e : m = z0.m ++ q := e
          exact ⟨q ++ [b], by show m ++ [b] = _; rw [e, List.append_assoc]⟩
        · rcases mu' a h with rfl | q
          · exact x.mu a (.inr ⟨i, ow⟩)
          · exact x.mu a q
end
section
variable {X : Cx} {G : Str → Addr} {PV : List V} {W : WX} {e : Expr} {fa : M E}
theorem rr {e : Expr} (h : PE X e (LE (pk X G) PV W fa)) : PE X e (LD (pk X G) PV W (M.bind fa refE)) := PEi h fun σ H Q hq => by
  obtain ⟨z, rfl, S, A⟩ := hq
  refine ⟨z, rfl, S, ?_⟩
  rw [bind_eq] at A
  cases hf : fa z.ρ z.s with
  | no => rw [hf] at A; exact A.elim
  | ex c ns vs ρ s => rw [hf] at A; exact A
  | ok e ρ s =>
    rw [hf] at A
    intro v F H m x S1 r
    exact acc_ref S x S1 r A
/-- a value, told by its number if it is a thing -/
def eRf (f : M E) : M E := M.bind (M.bind f refE) fun d => M.pure (.v d)
theorem de_rf (he : PE X e (LE (pk X G) PV W fa)) : PE X e (LE (pk X G) PV W (eRf fa)) :=
  PEi (rr he) fun σ H Q h => ld_bind (rel := fun H => erel (pk X G) σ H) (fun k q => erel_org k q) h fun z1 v d S r A => acc_val S r A
end

/-! ### isinstance -/
inductive Ty where | non | bl | int | str | lst | tup | dct | own (c : Str)
def Ty.val (P : Par) : Ty → Value
  | .non => .type "NoneType"
  | .bl => .type "bool"
  | .int => .type "int"
  | .str => .type "str"
  | .lst => .type "list"
  | .tup => .type "tuple"
  | .dct => .type "dict"
  | .own c => .ref (P.G c)
def tyD (e : E) (ρ : List Sl) (s : List Cl) : Option Ty := match e with
  | .v .non => some .non
  | .v (.bl _) => some .bl
  | .v (.int _) => some .int
  | .v (.str _) => some .str
  | .v (.tup _) => some .tup
  | e => match con e ρ s with
    | some (.lst _) => some .lst
    | some (.dk _ _) => some .dct
    | some (.dt _ _) => if (conW e ρ s).isSome = true then some .dct else none
    | some (.ins c _ _) => some (.own c)
    | none => none
theorem tyD_ok {P : Par} {PV : List V} {σ : L2.St} {z : Z} {v : V} {e : E} {H0 : Hp} {t : Ty} (S : SR P PV σ z) (r : ER P σ z H0 v e) (h : tyD e z.ρ z.s = some t) (hown : ∀ c, t = .own c → C8.InsC P.K (P.G c)) : TyX P.K z.H v (t.val P) := by
  have other : (match con e z.ρ z.s with
    | some (.lst _) => some Ty.lst
    | some (.dk _ _) => some Ty.dct
    | some (.dt _ _) => if (conW e z.ρ z.s).isSome = true then some Ty.dct else none
    | some (.ins c _ _) => some (Ty.own c)
    | none => none) = some t → TyX P.K z.H v (t.val P) := fun h => by
    cases hc : con e z.ρ z.s with
    | none => rw [hc] at h; cases h
    | some cl =>
      rw [hc] at h
      cases cl with
      | lst ds => cases h; obtain ⟨a, rfl, vs, h1, l⟩ := con_ok S r hc; exact .base (.lst h1)
      | dk ks ds =>
        cases h
        obtain ⟨a, rfl, vs, _, h1, l⟩ := con_ok S r hc
        rcases h1 with h1 | ⟨o, h1⟩
        · exact .base (.dK h1)
        · exact .fDict h1
      | dt ks ds =>
        have h : (if (conW e z.ρ z.s).isSome = true then some Ty.dct else none) = some t := h
        by_cases hw : (conW e z.ρ z.s).isSome = true
        · rw [if_pos hw] at h
          cases h
          obtain ⟨c', hc'⟩ := Option.isSome_iff_exists.mp hw
          have := conW_con hc'
          rw [hc] at this
          cases this
          obtain ⟨a, rfl, vs, _, h1, l⟩ := conW_ok S r hc'
          exact .base (.dT h1)
        · rw [if_neg hw] at h; cases h
      | ins c ns ds =>
        cases h
        obtain ⟨a, rfl, dx, vs, _, h1, l⟩ := con_ok S r hc
        have I := hown c rfl
        exact .base (.ins h1 I.cl I.ha I.hn I.htk I.hm)
  cases e with
  | l i => exact other h
  | f c => exact other h
  | v d =>
    cases d with
    | non => cases h; cases r.non; exact .base .non
    | bl b => cases h; cases r.bl; exact .base (.bl _)
    | int b => cases h; cases r.int; exact .base (.int _)
    | str b => cases h; cases r.str; exact .base (.str _)
    | tup b =>
      cases h
      obtain ⟨a, vs, rfl, _, l, h2⟩ := r.tup S
      exact .base (.tup ((S.fz a _ h2).elim id fun ⟨x, _⟩ => x.elim))
    | _ => exact other h
def gIsi (kit : Ty → Option Bool) (e : E) : M E := fun ρ s => match tyD e ρ s with
  | some t => match kit t with
    | some b => .ok (.v (.bl b)) ρ s
    | none => .no
  | none => .no
/-- what isinstance's table says is so -/
structure KitOk (K : PySem.W.Frag) (G : Str → Addr) (kit : Ty → Option Bool) (u : Value) : Prop where
  one : ∀ t b, kit t = some b → PySem.W.kitOne K (t.val ⟨K, G⟩) u = some b
  own : ∀ c b, kit (.own c) = some b → C8.InsC K (G c)
structure KitsOk (K : PySem.W.Frag) (G : Str → Addr) (kit : Ty → Option Bool) (us : List Value) : Prop where
  one : ∀ t b, kit t = some b → PySem.W.kitAny K (t.val ⟨K, G⟩) us = some b
  own : ∀ c b, kit (.own c) = some b → C8.InsC K (G c)
section
variable {X : Cx} {G : Str → Addr} {PV : List V} {W : WX} {e tn : Expr} {tns : List Expr} {fa : M E} {p pos p2 : Pos} {kit : Ty → Option Bool}
theorem de_isi {c : V} {u : Value} (hk : KitOk X.K G kit u) (hc : ClsV c u) (hT : PE X tn (tC c)) (he : PE X e (LE (pk X G) PV W fa)) (hg : Gl X "isinstance") (hm : X.mg "isinstance" = none)
    (hs : starEach [e, tn] X.env = (false, eval e X.env) :: starEach [tn] X.env := by rfl) (hs2 : starEach [tn] X.env = (false, eval tn X.env) :: starEach [] X.env := by rfl) (hpl : (backTo pos (starEach [tn] X.env)).any (·.1) = false := by rfl) :
    PE X (.Call (.Name "isinstance" p) [e, tn] [] pos) (LE (pk X G) PV W (M.bind fa (gIsi kit))) :=
  PEi (pe_callB call_isi hg hm (by decide +kernel) (pa_cons he (pa_cons hT pa_nil hs2) hs) (by decide) (by decide) hs hpl) fun σ H Q h => le_bind (rel := fun H => erel (pk X G) σ H) (fun k q => erel_org k q) h fun z1 v e1 S r A => by
    unfold gIsi at A
    split at A
    · rename_i t ht
      split at A
      · rename_i b hb
        exact ⟨v, c, _, u, b, rfl, hc, tyD_ok S r ht (fun k hk' => by subst hk'; exact hk.own k b hb), hk.one t b hb, acc_val S (.bl _) A⟩
      · exact A.elim
    · exact A.elim
theorem tyD_grow {e : E} {ρ : List Sl} {s : List Cl} : tyD e ρ s = tyD e ρ s := rfl
theorem de_isiT {cs : List V} {us : List Value} {k : Nat} (hk : KitsOk X.K G kit us) (hc : Paired ClsV cs us) (hlen : cs.length ≤ sizeLine) (hT : PA X tns (fun _ H Q => Q cs H)) (he : PE X e (LE (pk X G) PV W fa)) (hg : Gl X "isinstance") (hm : X.mg "isinstance" = none)
    (hs : starEach [e, .Tuple tns k p2] X.env = (false, eval e X.env) :: starEach [.Tuple tns k p2] X.env := by rfl) (hs2 : starEach [.Tuple tns k p2] X.env = (false, eval (.Tuple tns k p2) X.env) :: starEach [] X.env := by rfl) (hpl : (backTo pos (starEach [.Tuple tns k p2] X.env)).any (·.1) = false := by rfl) :
    PE X (.Call (.Name "isinstance" p) [e, .Tuple tns k p2] [] pos) (LE (pk X G) PV W (M.bind fa (gIsi kit))) :=
  PEi (pe_callB call_isiT hg hm (by decide +kernel) (pa_cons he (pa_cons (pe_tup hT) pa_nil hs2) hs) (by decide) (by decide) hs hpl) fun σ H Q h => le_bind (rel := fun H => erel (pk X G) σ H) (fun k q => erel_org k q) h fun z1 v e1 S r A => by
    unfold gIsi at A
    split at A
    · rename_i t ht
      split at A
      · rename_i b hb
        refine ⟨hlen, fun q hq => ?_⟩
        have kk := upd_keep (o := HO.tup cs) hq
        have S2 := S.grow kk
        have x2 := EX.grow (σ := σ) kk
        have r2 := r.up S x2
        have ht2 : tyD e1 ({ z1 with H := upd z1.H q (.tup cs) } : Z).ρ ({ z1 with H := upd z1.H q (.tup cs) } : Z).s = some t := ht
        exact ⟨v, q, cs, _, us, b, rfl, upd_same, hc, tyD_ok S2 r2 ht2 (fun k hk' => by subst hk'; exact hk.own k b hb), hk.one t b hb, A (.bl b) z1.F _ z1.m x2 S2 (Rep.bl b)⟩
      · exact A.elim
    · exact A.elim
end
end DL
set_option Elab.async false
set_option linter.all false
set_option maxRecDepth 100000
set_option maxHeartbeats 4000000
/-! DL23: repr. -/
namespace DL
open PySem L2 PySem.Spec PyProof.Rows

def keyP : Key → PyData
  | .inl i => .int i
  | .inr x => .str x
mutual
/-- data that repr shows; the mark: a list lies within -/
inductive Rq (K : PySem.W.Frag) (H : Hp) : V → PyData → Bool → Prop
  | non : Rq K H .non .none false
  | bl (b : Bool) : Rq K H (.bl b) (.bool b) false
  | int (i : Int) : Rq K H (.int i) (.int i) false
  | str (x : Str) : Rq K H (.str x) (.str x) false
  | lst {a : Addr} {xs : List V} {ds : List PyData} {b : Bool} : SqL K H a xs → RqAll K H xs ds b → Rq K H (.ref a) (.list ds) true
  | tup {a : Addr} {xs : List V} {ds : List PyData} {b : Bool} : SqT K H a xs → RqAll K H xs ds b → Rq K H (.ref a) (.tuple ds) b
  | dk {a : Addr} {ks : List Key} {vs : List V} {ds : List PyData} {b : Bool} : Rd H a (.dK (ks.zip vs)) → ks.length = vs.length → RqAll K H vs ds b → Rq K H (.ref a) (.dict ((ks.map keyP).zip ds)) b
inductive RqAll (K : PySem.W.Frag) (H : Hp) : List V → List PyData → Bool → Prop
  | nil : RqAll K H [] [] false
  | cons {v : V} {vs : List V} {d : PyData} {ds : List PyData} {b c : Bool} : Rq K H v d b → RqAll K H vs ds c → RqAll K H (v :: vs) (d :: ds) (b || c)
end
section
variable {X : Cx} {pins : List (Addr × Obj)} {σ : L2.St} {H : Hp} {s : Shared}
theorem RqAll.length {K : PySem.W.Frag} : ∀ {vs : List V} {ds : List PyData} {b : Bool}, RqAll K H vs ds b → vs.length = ds.length
  | _, _, _, .nil => rfl
  | _, _, _, .cons _ t => congrArg (· + 1) t.length
theorem keys_read {w : World} {prog : Program} {h : Heap} : ∀ {ks : List Key} {vs : List V} {es : List DictEntry} {kvs : List (Key × Value)}, KV (ks.zip vs) kvs → Pairs (mixKind prog w) es kvs → ks.length = vs.length →
    ReadsAll h (es.map (·.key)) (ks.map keyP) [] ∧ Vals vs (es.map (·.val))
  | [], [], _, _, r, p, _ => by cases r; cases p; exact ⟨.nil, .nil⟩
  | [], _ :: _, _, _, _, _, hl => by cases hl
  | _ :: _, [], _, _, _, _, hl => by cases hl
  | k :: ks, v :: vs, es, kvs, r, p, hl => by
    cases r with
    | cons r1 r2 =>
      cases p with
      | @cons e_0 _ _ _ p1 p2 p3 =>
        obtain ⟨q1, q2⟩ := keys_read (w := w) (prog := prog) (h := h) (ks := ks) (vs := vs) r2 p3 (by simpa using hl)
        obtain ⟨e1, r1⟩ := r1
        refine ⟨?_, .cons (by show RelV v e_0.val; rw [p2]; exact r1) q2⟩
        have p1 : keyIs _ _ = true := p1
        rw [← e1] at p1
        rcases keyIs_shape p1 with ⟨i, t, e2, e3⟩ | ⟨x, t, e2, e3⟩
        · have e2 : k = .inl i := e2
          subst e2
          rw [List.map_cons, List.map_cons, e3]
          exact ReadsAll.cons (.int i t) q1
        · have e2 : k = .inr x := e2
          subst e2
          rw [List.map_cons, List.map_cons, e3]
          exact ReadsAll.cons (.str x t) q1
mutual
theorem Rq.reads (I : Inv X pins σ H s) : ∀ {v : V} {d : PyData} {b : Bool} {u : Value}, Rq X.K H v d b → RelV v u → ∃ as, Reads s.heap u d as ∧ (b = false → sysModules ∉ as)
  | _, _, _, _, .non, r => by cases r; exact ⟨_, .none, fun _ => by simp⟩
  | _, _, _, _, .bl b, r => by cases r; exact ⟨_, .bool b, fun _ => by simp⟩
  | _, _, _, _, .int i, r => by obtain ⟨t, rfl⟩ := r; exact ⟨_, .int i t, fun _ => by simp⟩
  | _, _, _, _, .str x, r => by obtain ⟨t, rfl⟩ := r; exact ⟨_, .str x t, fun _ => by simp⟩
  | _, _, _, _, .lst hs ha, r => by
    cases r
    obtain ⟨its, rv, ⟨o, n, ho, hc, _, hd⟩, _⟩ := I.list hs
    obtain ⟨as, hr, _⟩ := RqAll.reads I ha rv
    exact ⟨_, .list ho hc hd hr, fun h => by cases h⟩
  | _, _, _, _, .tup hs ha, r => by
    cases r
    obtain ⟨its, rv, ⟨o, ho, hc, n, hd⟩, _⟩ := I.tuple hs
    obtain ⟨as, hr, hm⟩ := RqAll.reads I ha rv
    exact ⟨_, .tuple ho hc hd hr, hm⟩
  | _, _, _, _, .dk (ks := ks) (vs := vs) (ds := ds) he hl ha, r => by
    cases r
    obtain ⟨_, hd, kvs, kv, o, es, ep, ho, hx, hdat, hk, hp, _⟩ := dk_rd I.hok he
    obtain ⟨q1, q2⟩ := keys_read (w := X.w) (prog := X.prog) (h := s.heap) kv hp hl
    obtain ⟨as, hr, hm⟩ := RqAll.reads I ha q2
    have hld := ha.length
    have k1 : ((ks.map keyP).zip ds).map (·.1) = ks.map keyP := List.map_fst_zip (by simp; omega)
    have k2 : ((ks.map keyP).zip ds).map (·.2) = ds := List.map_snd_zip (by simp; omega)
    refine ⟨_, Reads.dict (kvs := (ks.map keyP).zip ds) (as := []) (bs := as) ho hx.1 hdat (by rw [k1]; exact q1) (by rw [k2]; exact hr), fun hb h => ?_⟩
    simp only [List.append_nil, List.cons_append, List.nil_append, List.mem_cons] at h
    rcases h with h | h
    · rw [← h] at hd
      simp at hd
    · exact hm hb h
theorem RqAll.reads (I : Inv X pins σ H s) : ∀ {vs : List V} {ds : List PyData} {b : Bool} {us : List Value}, RqAll X.K H vs ds b → Vals vs us → ∃ as, ReadsAll s.heap us ds as ∧ (b = false → sysModules ∉ as)
  | _, _, _, _, .nil, r => by cases r; exact ⟨_, .nil, fun _ => by simp⟩
  | _, _, _, _, .cons (d := d) (ds := ds) (b := b) (c := c) h1 h2, r => by
    cases r with
    | cons r1 r2 =>
      obtain ⟨as, q1, m1⟩ := Rq.reads I h1 r1
      obtain ⟨bs, q2, m2⟩ := RqAll.reads I h2 r2
      refine ⟨_, .cons q1 q2, fun hb h => ?_⟩
      rw [Bool.or_eq_false_iff] at hb
      rcases List.mem_append.mp h with h | h
      · exact m1 hb.1 h
      · exact m2 hb.2 h
end
end
/-- repr(x) of data -/
def rRepr (K : PySem.W.Frag) : List V → Hp → VK → Prop := fun xs H Q => ∃ x p b, xs = [x] ∧ Rq K H x p b ∧ (p.hasDict = true → b = false) ∧ p.showable = true ∧ p.depth ≤ 40 ∧ p.shown.length ≤ sizeLine ∧ Q (.str p.shown) H
theorem cd_repr {X : Cx} (hg : X.A.guards = some []) (hu : X.A.units + 64 < cLine) : CallR X (.builtin "repr") (rRepr X.K) := by
  intro pins s σ H vs us Q I r h
  obtain ⟨x, p, b, rfl, hq, hb, hs, hd, hz, q⟩ := h
  obtain ⟨u, rfl, ru⟩ := vals1 r
  obtain ⟨as, hr, hm⟩ := hq.reads I ru
  have fin : ∀ (tk : Tok) (h' : Heap) (t' : Nat), (∀ b o, s.heap.get? b = some o → h'.get? b = some o) → EP X pins σ Q (.str p.shown tk) { s with heap := h', toks := t' } := fun tk h' t' k => ⟨.str p.shown, H, I.kept k, ⟨tk, rfl⟩, q⟩
  cases hr with
  | none => exact PySem.P.repr_of_none (by have := fin s.toks s.heap (s.toks + 1) (fun _ _ e => e); exact this)
  | bool b => exact PySem.P.repr_of_bool (by have := fin s.toks s.heap (s.toks + 1) (fun _ _ e => e); simpa only [PyData.shown] using this)
  | int i t => exact PySem.P.repr_of_int (of_decide_eq_true hs) (by have := fin s.toks s.heap (s.toks + 1) (fun _ _ e => e); simpa only [PyData.shown] using this)
  | str x t => exact PySem.P.repr_of_str (by have := fin s.toks s.heap (s.toks + 1) (fun _ _ e => e); simpa only [PyData.shown] using this) (by simpa only [PyData.shown] using hz)
  | list h1 h2 h3 h4 => exact PySem.repr_of_reads' (.list h1 h2 h3 h4) hs (fun e => hm (hb e)) hg (by omega) (fun _ _ e => e) (fun h' u tk k => fin u h' tk k) hz
  | tuple h1 h2 h3 h4 => exact PySem.repr_of_reads' (.tuple h1 h2 h3 h4) hs (fun e => hm (hb e)) hg (by omega) (fun _ _ e => e) (fun h' u tk k => fin u h' tk k) hz
  | dict h1 h2 h3 h4 h5 => exact PySem.repr_of_reads' (.dict h1 h2 h3 h4 h5) hs (fun e => hm (hb e)) hg (by omega) (fun _ _ e => e) (fun h' u tk k => fin u h' tk k) hz
end DL
set_option Elab.async false
set_option linter.all false
set_option maxRecDepth 100000
set_option maxHeartbeats 4000000
/-! DL24: repr, join, repeats by their meaning; what loops walk. -/
namespace DL
open PySem L2 PySem.Spec PyProof.Rows

def orAll : List (PyData × Bool) → Bool
  | [] => false
  | p :: ps => p.2 || orAll ps
def pyR (s : List Cl) : Nat → D → Option (PyData × Bool)
  | 0, _ => none
  | n + 1, d => match d with
    | .non => some (.none, false)
    | .bl b => some (.bool b, false)
    | .int i => some (.int i, false)
    | .str x => some (.str x, false)
    | .tup xs => (mapO (pyR s n) xs).map fun ps => (.tuple (ps.map (·.1)), orAll ps)
    | .kt xs => (mapO (pyR s n) xs).map fun ps => (.tuple (ps.map (·.1)), orAll ps)
    | .lst xs => (mapO (pyR s n) xs).map fun ps => (.list (ps.map (·.1)), true)
    | .dk ks xs => (mapO (pyR s n) xs).map fun ps => (.dict ((ks.map keyP).zip (ps.map (·.1))), orAll ps)
    | .ref k => match s[k]? with
      | some (.lst xs) => (mapO (pyR s n) xs).map fun ps => (.list (ps.map (·.1)), true)
      | some (.dk ks xs) => (mapO (pyR s n) xs).map fun ps => (.dict ((ks.map keyP).zip (ps.map (·.1))), orAll ps)
      | _ => none
    | _ => none
def pyRE (e : E) (ρ : List Sl) (s : List Cl) : Option (PyData × Bool) := match e with
  | .v d => pyR s 12 d
  | e => match con e ρ s with
    | some (.lst xs) => (mapO (pyR s 12) xs).map fun ps => (.list (ps.map (·.1)), true)
    | some (.dk ks xs) => (mapO (pyR s 12) xs).map fun ps => (.dict ((ks.map keyP).zip (ps.map (·.1))), orAll ps)
    | _ => none
section
variable {P : Par} {PV : List V} {W : WX} {σ : L2.St} {z : Z} {v : V} {H0 : Hp}
theorem mapO_rq {f : D → Option (PyData × Bool)} (hf : ∀ v d p, Rep P z.F z.m v d → f d = some p → Rq P.K z.H v p.1 p.2) : ∀ {vs : List V} {ds : List D} {ps : List (PyData × Bool)}, RepL P z.F z.m vs ds → mapO f ds = some ps → RqAll P.K z.H vs (ps.map (·.1)) (orAll ps)
  | _, _, _, .nil, h => by cases h; exact .nil
  | _, _, _, .cons (d := d) (ds := ds) r l, h => by
    unfold mapO at h
    cases h1 : f d with
    | none => rw [h1] at h; cases h
    | some y =>
      cases h2 : mapO f ds with
      | none => rw [h1, h2] at h; cases h
      | some ys =>
        rw [h1, h2] at h
        cases h
        exact .cons (hf _ _ _ r h1) (mapO_rq hf l h2)
theorem lst_rq {f : D → Option (PyData × Bool)} (hf : ∀ v d p, Rep P z.F z.m v d → f d = some p → Rq P.K z.H v p.1 p.2) {vs : List V} {ds : List D} {a : Addr} {q : PyData × Bool} (e : z.H a = some (.lst vs)) (l : RepL P z.F z.m vs ds)
    (h : (mapO f ds).map (fun ps => (PyData.list (ps.map (·.1)), true)) = some q) : Rq P.K z.H (.ref a) q.1 q.2 := by
  cases h1 : mapO f ds with
  | none => rw [h1] at h; cases h
  | some ys => rw [h1] at h; cases h; exact .lst (SqL.of e) (mapO_rq hf l h1)
theorem dk_rq {f : D → Option (PyData × Bool)} (hf : ∀ v d p, Rep P z.F z.m v d → f d = some p → Rq P.K z.H v p.1 p.2) {ks : List Key} {vs : List V} {ds : List D} {a : Addr} {q : PyData × Bool} (hl : ks.length = vs.length) (e : Rd z.H a (.dK (ks.zip vs))) (l : RepL P z.F z.m vs ds)
    (h : (mapO f ds).map (fun ps => (PyData.dict ((ks.map keyP).zip (ps.map (·.1))), orAll ps)) = some q) : Rq P.K z.H (.ref a) q.1 q.2 := by
  cases h1 : mapO f ds with
  | none => rw [h1] at h; cases h
  | some ys => rw [h1] at h; cases h; exact .dk e hl (mapO_rq hf l h1)
theorem pyR_ok (S : SR P PV σ z) : ∀ (n : Nat) (v : V) (d : D) (p : PyData × Bool), Rep P z.F z.m v d → pyR z.s n d = some p → Rq P.K z.H v p.1 p.2
  | 0, _, _, _, _, h => by cases h
  | n + 1, v, d, p, r, h => by
    have ih := pyR_ok S n
    cases r with
    | non => cases h; exact .non
    | bl b => cases h; exact .bl b
    | int i => cases h; exact .int i
    | str x => cases h; exact .str x
    | ty n => cases h
    | @tup a vs ds h1 l =>
      have h' : (mapO (pyR z.s n) ds).map (fun ps => (PyData.tuple (ps.map (·.1)), orAll ps)) = some p := h
      cases h2 : mapO (pyR z.s n) ds with
      | none => rw [h2] at h'; cases h'
      | some ys => rw [h2] at h'; cases h'; exact .tup (SqT.of ((S.fz a _ h1).elim id fun ⟨x, _⟩ => x.elim)) (mapO_rq ih l h2)
    | @kt a vs ds h1 l =>
      have h' : (mapO (pyR z.s n) ds).map (fun ps => (PyData.tuple (ps.map (·.1)), orAll ps)) = some p := h
      cases h2 : mapO (pyR z.s n) ds with
      | none => rw [h2] at h'; cases h'
      | some ys => rw [h2] at h'; cases h'; exact .tup (h1 _) (mapO_rq ih l h2)
    | @lst a vs ds h1 l => exact lst_rq ih (vs := vs) (ds := ds) ((S.fz a _ h1).elim id fun ⟨x, _⟩ => x.elim) l h
    | dk h1 h2 h3 => exact dk_rq ih h2 (S.rd h1) h3 h
    | dt h1 h2 h3 => cases h
    | ins h1 h2 h3 => cases h
    | @ref k a h1 =>
      have h' : (match z.s[k]? with
        | some (.lst xs) => (mapO (pyR z.s n) xs).map fun ps => (PyData.list (ps.map (·.1)), true)
        | some (.dk ks xs) => (mapO (pyR z.s n) xs).map fun ps => (PyData.dict ((ks.map keyP).zip (ps.map (·.1))), orAll ps)
        | _ => none) = some p := h
      cases h2 : z.s[k]? with
      | none => rw [h2] at h'; cases h'
      | some c =>
        rw [h2] at h'
        cases c with
        | lst ds => obtain ⟨vs, e, l⟩ := (S.cl k a _ h1 h2).2; exact lst_rq ih e l h'
        | dk ks ds => obtain ⟨vs, hl, e, l⟩ := (S.cl k a _ h1 h2).2; exact dk_rq ih hl (.inl e) l h'
        | dt ks ds => cases h'
        | ins c ns ds => cases h'
    | ob a => cases h
    | scr h1 => cases h
theorem pyRE_ok {e : E} {p : PyData × Bool} (S : SR P PV σ z) (r : ER P σ z H0 v e) (h : pyRE e z.ρ z.s = some p) : Rq P.K z.H v p.1 p.2 := by
  have key : (match con e z.ρ z.s with
    | some (.lst xs) => (mapO (pyR z.s 12) xs).map fun ps => (PyData.list (ps.map (·.1)), true)
    | some (.dk ks xs) => (mapO (pyR z.s 12) xs).map fun ps => (PyData.dict ((ks.map keyP).zip (ps.map (·.1))), orAll ps)
    | _ => none) = some p → Rq P.K z.H v p.1 p.2 := fun h => by
    cases h1 : con e z.ρ z.s with
    | none => rw [h1] at h; cases h
    | some c =>
      rw [h1] at h
      cases c with
      | lst ds => obtain ⟨a, rfl, vs, e1, l⟩ := con_ok S r h1; exact lst_rq (pyR_ok S 12) e1 l h
      | dk ks ds => obtain ⟨a, rfl, vs, hl, e1, l⟩ := con_ok S r h1; exact dk_rq (pyR_ok S 12) hl e1 l h
      | dt ks ds => cases h
      | ins c ns ds => cases h
  cases e with
  | v d => exact pyR_ok S 12 v d p r h
  | l i => exact key h
  | f c => exact key h
/-- what repr shows, or no -/
def rpOk (p : PyData × Bool) : Bool := (!p.1.hasDict || !p.2) && (p.1.showable && (decide (p.1.depth ≤ 40) && decide (p.1.shown.length ≤ sizeLine)))
def gRepr : List E → M E
  | [e] => fun ρ s => match pyRE e ρ s with
    | some p => if rpOk p = true then .ok (.v (.str p.1.shown)) ρ s else .no
    | none => .no
  | _ => M.no
theorem cp_repr : CdD P PV W gRepr (rRepr P.K) := by
  intro σ z H0 vs es Q S l A
  unfold gRepr at A
  split at A
  · obtain ⟨v, rfl, r⟩ := l.one
    split at A
    · rename_i p hp
      split at A
      · rename_i ho
        unfold rpOk at ho
        simp only [Bool.and_eq_true, Bool.or_eq_true, decide_eq_true_eq, Bool.not_eq_true'] at ho
        obtain ⟨h1, h2, h3, h4⟩ := ho
        refine ⟨v, p.1, p.2, rfl, pyRE_ok S r hp, fun hd => ?_, h2, h3, h4, acc_val S (.str _) A⟩
        rcases h1 with h1 | h1
        · rw [h1] at hd; cases hd
        · exact h1
      · exact A.elim
    · exact A.elim
  · exact A.elim
end

/-! ### what loops walk -/
def walkE (e : E) : M (List D) := M.bind (frz e) fun d ρ s => match d with
  | .tup xs => .ok xs ρ s
  | .kt xs => .ok xs ρ s
  | .lst xs => .ok xs ρ s
  | .scr ns => .ok (ns.map D.int) ρ s
  | .str x => .ok (x.cps.toList.map fun c => D.str ⟨#[c]⟩) ρ s
  | _ => .no
/-- a list, a tuple or a text, walked -/
def iSeq (K : PySem.W.Frag) (te : TE) : TI := fun σ H R => te σ H fun x H1 => ((∃ a, x = .ref a ∧ (∃ xs, SqL K H1 a xs) ∧ R (Itl K a) H1) ∨ (∃ a, x = .ref a ∧ (∃ xs, SqT K H1 a xs) ∧ R (Itt K a) H1)) ∨ ∃ y, x = .str y ∧ R (Its y) H1
theorem pi_seq {X : Cx} {tg l : Expr} {te : TE} (hl : PE X l te) : PI X tg l (iSeq X.K te) := by
  refine ⟨fun pins s σ H R I h => ?_⟩
  refine thn (hl.run pins s σ H _ I h) fun v s1 ⟨x, H1, I1, r1, q1⟩ => ?_
  have fr : ∀ b ∈ [s1.heap.objs.size], FpOk X pins H1 b := fun b hb => by
    have e : b = s1.heap.objs.size := by simpa using hb
    subst e
    exact I1.fpOk (Nat.le_refl _) (I1.hok.fresh (Nat.le_refl _))
  rcases q1 with (⟨a, e, ⟨xs, hq⟩, q⟩ | ⟨a, e, ⟨xs, hq⟩, q⟩) | ⟨y, e, q⟩
  · subst e
    cases r1
    obtain ⟨its, rv, p, hz⟩ := I1.list hq
    refine wpAny_pyIter_list p.isList ?_
    exact ⟨s1.heap.objs.size, [s1.heap.objs.size], _, _, H1, rfl, I1.kept (t' := s1.toks) fun b o e => Heap.get?_push_of_some _ e, turn_list a _, ⟨_, Heap.get?_push_size _ rfl, rfl, rfl⟩, fr, q⟩
  · subst e
    cases r1
    obtain ⟨its, rv, p, hz⟩ := I1.tuple hq
    refine wpAny_pyIter_tuple (show s1.heap.IsTuple a its.toArray from p) ?_
    exact ⟨s1.heap.objs.size, [s1.heap.objs.size], _, _, H1, rfl, I1.kept (t' := s1.toks) fun b o e => Heap.get?_push_of_some _ e, turn_tuple a _, ⟨_, Heap.get?_push_size _ rfl, rfl, rfl⟩, fr, q⟩
  · subst e
    obtain ⟨t, rfl⟩ := r1
    cases ha : y.cps.all (· < 128)
    · exact wpAny_pyIter_wide ha (pi_one (tk := s1.toks) I1 _ (turn_str _ y t "str_iterator" (.inr rfl)) ⟨_, Heap.get?_push_size _ rfl, rfl, rfl⟩ q)
    · exact wpAny_pyIter_ascii ha (pi_one (tk := s1.toks) I1 _ (turn_str _ y t "str_ascii_iterator" (.inl rfl)) ⟨_, Heap.get?_push_size _ rfl, rfl, rfl⟩ q)
end DL
set_option Elab.async false
set_option linter.all false
set_option maxRecDepth 100000
set_option maxHeartbeats 4000000
/-! DL25: enumerate over a list or a tuple. -/
namespace PySem
open Sem (wp)
open Builtin
theorem dl_enum_new1 {v : Value} {o : Obj} {H : Heap → Prop} (B : Begins v o H) :
    Meets (Builtin.«enumerate.__new__» ⟨[.type "enumerate", v], []⟩) (fun _ R s => H s.heap ∧
      R (.ok (.ret (.ref (s.heap.push o).objs.size))) { s with heap := (s.heap.push o).push { cls := .type "enumerate", data := .fields #[.none, .bool false, .ref s.heap.objs.size, rawInt 0, .none, .none] } }) :=
  .of_wp fun prog w A R s h => by
    obtain ⟨hp, g, d, tk, os⟩ := s; obtain ⟨h1, h⟩ := h
    have hsub := sub_enumerate
    have q1 : ∀ {A' : Around} {E : Value → Shared → Prop} {Q : Value → Shared → Prop}, Q (.ref hp.objs.size) ⟨hp.push o, g, d, tk, os⟩ → wpAny (model prog w) A' (pyIter v) Q E ⟨hp, g, d, tk, os⟩ :=
      fun q => B.iter prog w _ _ ⟨hp, g, d, tk, os⟩ _ h1 q
    wp_walk using q1
    refine wpAny_stack_any fun st => wpAny_pure ?_
    split
    · rename_i c _ _ _ _ _
      cases (c == Value.type "enumerate")
      · wp_walk using q1
        exact ⟨_, rfl, h⟩
      · wp_walk using q1
        exact ⟨_, rfl, h⟩
    · wp_walk using q1
      exact ⟨_, rfl, h⟩
section
variable {prog : Program} {w : World} {A : Around} {E : Value → Shared → Prop} {s : Shared}
theorem dl_enum_begins1 {v : Value} {o : Obj} {H : Heap → Prop} {Q : Value → Shared → Prop} (B : Begins v o H) (h1 : H s.heap)
    (h : ∀ h', IsEnum h' (s.heap.objs.size + 1) s.heap.objs.size 0 .none → h'.get? s.heap.objs.size = some o → h'.objs.size = s.heap.objs.size + 2 →
      (∀ b o, s.heap.get? b = some o → h'.get? b = some o) → Q (.ref (s.heap.objs.size + 1)) { s with heap := h' }) :
    wpAny (model prog w) A (call (.type "enumerate") [v]) Q E s := by
  refine callType_new F.called_enumerate (by decide) (F.typeCall_enumerate_1 _) (F.newCall_enumerate_1 _) (fun obj => F.args_object_init_2 obj _) F.entry_enumerate_new
    (dl_enum_new1 B) ⟨h1, ?_⟩
  have hz : (s.heap.push o).objs.size = s.heap.objs.size + 1 := Heap.size_push ..
  show _ ∧ _
  rw [hz]
  have he : IsEnum ((s.heap.push o).push { cls := .type "enumerate", data := .fields #[.none, .bool false, .ref s.heap.objs.size, rawInt 0, .none, .none] }) (s.heap.objs.size + 1) s.heap.objs.size 0 .none := by
    have := Heap.get?_push_size (s.heap.push o) (o := { cls := .type "enumerate", data := .fields #[.none, .bool false, .ref s.heap.objs.size, rawInt 0, .none, .none] }) rfl
    rw [hz] at this; exact this
  exact ⟨⟨_, he, rfl⟩, h _ he (Heap.get?_push_of_some _ (Heap.get?_push_size _ B.free)) (by rw [Heap.size_push, hz]) fun b o x => Heap.get?_push_of_some _ (Heap.get?_push_of_some _ x)⟩
end
end PySem
namespace DL
open PySem L2 PySem.Spec PyProof.Rows
/-- the tuple at a, each item in a new pair with its number -/
def IteT (K : PySem.W.Frag) (a : Addr) : It :=
  ⟨fun i H => ∃ (xs : List V) (x : V), SqT K H a xs ∧ xs[i]? = some x, fun i H v H' => ∃ T x, v = .ref T ∧ H T = none ∧ H' = upd H T (.tup [.int (i : Nat), x]) ∧ ∀ xs, SqT K H a xs → xs[i]? = some x, fun i H => ∃ xs : List V, SqT K H a xs ∧ i = xs.length⟩
theorem turn_enumT {P : Program} {w : World} {K : PySem.W.Frag} {elts : List Expr} {kk : Nat} {tpos : Pos} (a e it : Addr) (hai : a ≠ it) (hae : a ≠ e) :
    Turn P w K (.Tuple elts kk tpos) (IteT K a) [e, it] e (fun i h => (∃ old, IsEnum h e it ((i : Nat) : Int) old) ∧ h.IsTupleIter it a i ∧ e ≠ it) where
  mem := by simp
  obj := fun i h st b hb => by
    obtain ⟨⟨old, he⟩, ⟨o, ho, hc, hd⟩, _⟩ := st
    have e' : b = e ∨ b = it := by simpa using hb
    rcases e' with z | z
    · rw [z]; exact ⟨_, he, fun v q => nomatch q⟩
    · rw [z]; exact ⟨o, ho, fun v q => by rw [hd] at q; cases q⟩
  keep := fun i h h' st k => let ⟨⟨old, he⟩, hi, hne⟩ := st; ⟨⟨old, k e (by simp) _ he⟩, hi.at fun o q => k it (by simp) o q, hne⟩
  item := by
    intro X hP hw hK hc i pins s σ H E I hf st hg
    subst hP hw hK
    obtain ⟨⟨old, he⟩, hit, hne⟩ := st
    obtain ⟨xs, x, hq, hx⟩ := hg
    obtain ⟨its, rv, p, hz⟩ := I.tuple hq
    obtain ⟨u, hu, ru⟩ := rv.get hx
    have hu' : its.toArray[i]? = some u := by simpa using hu
    have hlt : i < its.toArray.size := (Array.getElem?_eq_some_iff.mp hu').1
    have hel : e < s.heap.objs.size := Heap.lt_size he
    have hil : it < s.heap.objs.size := by obtain ⟨_, q, _⟩ := hit; exact Heap.lt_size q
    have hef : e ∉ [it, a] := by simp; exact ⟨hne, fun z => hae z.symm⟩
    refine wpAny_pyNext_enum_itemD (Draws.tuple (A := X.A.in1) (I.ok.hd hc) it a hai its.toArray) he ⟨hit, p⟩ hlt hne hef fun u' h' tk hP ho hs' hT hsz hk => ?_
    have eu : u' = u := by
      have hP : its.toArray[i]? = some u' := hP
      rw [hu'] at hP; exact (Option.some.inj hP).symm
    subst eu
    have hit' := hs'.1
    refine ⟨_, rfl, wpAny_letOwnedTupleGo_enum (s := { s with heap := h', toks := tk + 1 }) ho fun h'' he' sb => ?_⟩
    have hT2 : h''.get? s.heap.objs.size = some { cls := .type "tuple", data := .seq #[.int i tk, u'] } := (sb.2 _ (Nat.ne_of_gt hel)).trans hT
    have new : ObjOk X.prog X.w (upd H s.heap.objs.size (.tup [.int (i : Nat), x])) h'' s.heap.objs.size (.tup [.int (i : Nat), x]) :=
      ⟨by show 2 ≤ sizeLine; decide, [.int i tk, u'], .cons ⟨_, rfl⟩ (.cons ru .nil), ⟨_, hT2, rfl, _, rfl⟩⟩
    have I1 : Inv X pins σ (upd H s.heap.objs.size (.tup [.int (i : Nat), x])) { s with heap := h'', toks := tk + 1 } :=
      I.turnedNew (ch := [e, it]) (fun b ob hb q => (sb.2 b (fun z => hb (by simp [z]))).trans (hk b ob (fun z => hb (by simp [z])) (fun z => hb (by simp [z])) q)) hf (Nat.le_refl _) new
    refine ⟨.ref s.heap.objs.size, _, I1, rfl, ⟨_, x, rfl, I.hok.fresh (Nat.le_refl _), rfl, fun ys hy => by rw [I.tuple_inj hy hq]; exact hx⟩, ⟨⟨u', ?_⟩, hit'.at fun o q => (sb.2 it (Ne.symm hne)).trans q, hne⟩, fun b hb => ?_⟩
    · have e1 : ((i + 1 : Nat) : Int) = (i : Int) + 1 := by omega
      rw [e1]; exact he'
    · have hb' : b < s.heap.objs.size := by
        have e' : b = e ∨ b = it := by simpa using hb
        rcases e' with z | z
        · rw [z]; exact hel
        · rw [z]; exact hil
      rw [upd_ne (Nat.ne_of_lt hb')]
      exact (hf b hb).1
  done := by
    intro X hP hw hK hc i pins s σ H E I hf st hg
    subst hP hw hK
    obtain ⟨⟨old, he⟩, hit, hne⟩ := st
    obtain ⟨xs, hq, hx⟩ := hg
    obtain ⟨its, rv, p, hz⟩ := I.tuple hq
    have hl := rv.length
    have hn : i = its.toArray.size := by rw [List.size_toArray]; omega
    obtain ⟨f0, f1, f2, f3, f4, f5⟩ := hf it (by simp)
    subst hn
    exact wpAny_pyNext_enum_endD (Draws.tuple (A := X.A.in1) (I.ok.hd hc) it a hai its.toArray) he ⟨hit, p⟩ fun h' eb => ⟨rfl, I.turned (t' := s.toks) (fun b o hb q => eb b o hb q) f0 f1 f3 f4 f5⟩
  self := fun A i s Q E st h => let ⟨⟨_, he⟩, _⟩ := st; wpAny_pyIter_enum he h
def iEnumA (K : PySem.W.Frag) (ta : TA) : TI := fun σ H R => ta σ H fun vs H1 => ∃ a xs, vs = [.ref a] ∧ ((SqL K H1 a xs ∧ R (Ite K a) H1) ∨ (SqT K H1 a xs ∧ R (IteT K a) H1))
theorem pi_enumA {X : Cx} {e : Expr} {ta : TA} {p pos tpos : Pos} {elts : List Expr} {kk : Nat} (hg : Gl X "enumerate") (hm : X.mg "enumerate" = none) (ha : PA X [e] ta) (hs : starEach [e] X.env = [(false, eval e X.env)] := by rfl) :
    PI X (.Tuple elts kk tpos) (.Call (.Name "enumerate" p) [e] [] pos) (iEnumA X.K ta) := by
  refine ⟨fun pins s σ H R I h => ?_⟩
  refine Call_ (ld_blt I hg hm boot_enumerate (PyProof.Rows.callWith_type1 (thn (ha.run pos pins s σ H _ I h) fun us s1 ⟨vs, H1, I1, r1, q1⟩ => ?_) hs rfl))
  obtain ⟨a, xs, ex, q1⟩ := q1
  subst ex
  cases r1 with
  | cons r rr =>
    cases rr
    cases r
    have fr : ∀ b ∈ [s1.heap.objs.size + 1, s1.heap.objs.size], FpOk X pins H1 b := fun b hb => by
      have e' : b = s1.heap.objs.size + 1 ∨ b = s1.heap.objs.size := by simpa using hb
      have hle : s1.heap.objs.size ≤ b := by
        rcases e' with z | z
        · rw [z]; exact Nat.le_succ _
        · rw [z]; exact Nat.le_refl _
      exact I1.fpOk hle (I1.hok.fresh hle)
    rcases q1 with ⟨hq, q⟩ | ⟨hq, q⟩
    · obtain ⟨its, rv, p', hz⟩ := I1.list hq
      refine call_enumerate_list p'.isList fun h' he hit hsz hk => wpAny_pyIter_enum he ?_
      have I2 : Inv X pins σ H1 { s1 with heap := h' } := I1.kept (t' := s1.toks) hk
      exact ⟨s1.heap.objs.size + 1, [s1.heap.objs.size + 1, s1.heap.objs.size], _, _, H1, rfl, I2, turn_enum a (s1.heap.objs.size + 1) s1.heap.objs.size, ⟨⟨.none, he⟩, hit, Nat.succ_ne_self _⟩, fr, q⟩
    · obtain ⟨its, rv, p', hz⟩ := I1.tuple hq
      have hal : a < s1.heap.objs.size := by obtain ⟨_, e, _⟩ := p'; exact Heap.lt_size e
      refine dl_enum_begins1 (begins_tuple a its.toArray) p' fun h' he hit hsz hk => wpAny_pyIter_enum he ?_
      have I2 : Inv X pins σ H1 { s1 with heap := h' } := I1.kept (t' := s1.toks) hk
      exact ⟨s1.heap.objs.size + 1, [s1.heap.objs.size + 1, s1.heap.objs.size], _, _, H1, rfl, I2, turn_enumT a (s1.heap.objs.size + 1) s1.heap.objs.size (Nat.ne_of_lt hal) (Nat.ne_of_lt (Nat.lt_succ_of_lt hal)), ⟨⟨.none, he⟩, ⟨_, hit, rfl, rfl⟩, Nat.succ_ne_self _⟩, fr, q⟩
end DL
set_option Elab.async false
set_option linter.all false
set_option maxRecDepth 100000
set_option maxHeartbeats 4000000
/-! DL26: what loops walk, by its meaning. -/
namespace DL
open PySem L2 PySem.Spec PyProof.Rows

def walkD (d : D) : M (List D) := fun ρ s => match d with
  | .tup xs => .ok xs ρ s
  | .kt xs => .ok xs ρ s
  | .lst xs => .ok xs ρ s
  | .scr ns => .ok (ns.map D.int) ρ s
  | .str x => .ok (x.cps.toList.map fun c => D.str ⟨#[c]⟩) ρ s
  | _ => .no
def itD (f : M E) : M (List D) := M.bind (M.bind f frz) walkD
section
variable {P : Par} {PV : List V} {F0 : Hp} {m0 : List Addr} {a : Addr} {vs : List V} {xs : List D}
theorem RepL.up' {z : Z} (l : RepL P F0 m0 vs xs) (k : ∀ a o, F0 a = some o → z.F a = some o) (q : ∃ r, z.m = m0 ++ r) : RepL P z.F z.m vs xs := l.mono k q
theorem walk_l (h : ∀ (σ' : L2.St) (z : Z), SR P PV σ' z → (∀ a o, F0 a = some o → z.F a = some o) → SqL P.K z.H a vs) (l : RepL P F0 m0 vs xs) : WalkD P PV (Itl P.K a) xs F0 m0 := fun i σ' z S kF km => by
  have hq := h σ' z S kF
  have lz := l.up' kF km
  have e := l.length
  refine ⟨fun hi => ⟨?_, fun x H' hy => ?_⟩, fun hi => ⟨vs, hq, by omega⟩⟩
  · exact ⟨vs, vs[i]'(by omega), hq, List.getElem?_eq_getElem (by omega)⟩
  · obtain ⟨rfl, hx⟩ := hy
    obtain ⟨d, hd, r⟩ := lz.get' (hx vs hq)
    exact ⟨z.F, EX.refl, S, d, hd, r⟩
theorem walk_t (h : ∀ (σ' : L2.St) (z : Z), SR P PV σ' z → (∀ a o, F0 a = some o → z.F a = some o) → SqT P.K z.H a vs) (l : RepL P F0 m0 vs xs) : WalkD P PV (Itt P.K a) xs F0 m0 := fun i σ' z S kF km => by
  have hq := h σ' z S kF
  have lz := l.up' kF km
  have e := l.length
  refine ⟨fun hi => ⟨?_, fun x H' hy => ?_⟩, fun hi => ⟨vs, hq, by omega⟩⟩
  · exact ⟨vs, vs[i]'(by omega), hq, List.getElem?_eq_getElem (by omega)⟩
  · obtain ⟨rfl, hx⟩ := hy
    obtain ⟨d, hd, r⟩ := lz.get' (hx vs hq)
    exact ⟨z.F, EX.refl, S, d, hd, r⟩
theorem walk_s {x : Str} : WalkD P PV (Its x) (x.cps.toList.map fun c => D.str ⟨#[c]⟩) F0 m0 := fun i σ' z S kF km => by
  refine ⟨fun hi => ⟨?_, fun v H' hy => ?_⟩, fun hi => ?_⟩
  · show i < x.cps.size
    simpa using hi
  · obtain ⟨rfl, c, hc, rfl⟩ := hy
    refine ⟨z.F, EX.refl, S, .str ⟨#[c]⟩, ?_, .str _⟩
    rw [List.getElem?_map, Array.getElem?_toList, hc]
    rfl
  · show x.cps.size ≤ i
    simp at hi
    omega
/-- new pairs at each turn -/
theorem pair_step {σ' : L2.St} {z : Z} {T : Addr} {us : List V} {ds : List D} (S : SR P PV σ' z) (hT : z.H T = none) (l : RepL P z.F z.m us ds) :
    EX σ' z σ' ⟨upd z.F T (.tup us), upd z.H T (.tup us), z.m, z.ρ, z.s⟩ ∧ SR P PV σ' ⟨upd z.F T (.tup us), upd z.H T (.tup us), z.m, z.ρ, z.s⟩ ∧ Rep P (upd z.F T (.tup us)) z.m (.ref T) (.tup ds) := by
  have k := upd_keep (o := HO.tup us) hT
  have hf := S.fno hT
  have nm : ¬ Mu σ' z T := fun q => by
    obtain ⟨o, e⟩ := S.mu_there q
    rw [hT] at e; cases e
  exact ⟨EX.frz S k hf (.inl hT) fun _ h => h, S.frz k hf (fun q => nm (.inl q)) upd_same rfl fun j x e => .inl ⟨e, fun q => nm (.inr ⟨j, q⟩)⟩, .tup upd_same (l.mono (upd_F hf) ⟨[], (List.append_nil _).symm⟩)⟩
def enumD (xs : List D) : List D := (List.range xs.length).zipWith (fun i d => D.tup [.int (i : Nat), d]) xs
theorem enumD_length (xs : List D) : (enumD xs).length = xs.length := by
  unfold enumD
  rw [List.length_zipWith, List.length_range, Nat.min_self]
theorem enumD_get {xs : List D} {i : Nat} {d : D} (h : xs[i]? = some d) : (enumD xs)[i]? = some (.tup [.int (i : Nat), d]) := by
  have hi := (List.getElem?_eq_some_iff.mp h).1
  unfold enumD
  rw [List.getElem?_zipWith, List.getElem?_range hi, h]
theorem walk_el (h : ∀ (σ' : L2.St) (z : Z), SR P PV σ' z → (∀ a o, F0 a = some o → z.F a = some o) → SqL P.K z.H a vs) (l : RepL P F0 m0 vs xs) : WalkD P PV (Ite P.K a) (enumD xs) F0 m0 := fun i σ' z S kF km => by
  have hq := h σ' z S kF
  have lz := l.up' kF km
  have e := l.length
  rw [enumD_length]
  refine ⟨fun hi => ⟨?_, fun x H' hy => ?_⟩, fun hi => ⟨vs, hq, by omega⟩⟩
  · exact ⟨vs, vs[i]'(by omega), hq, List.getElem?_eq_getElem (by omega)⟩
  · obtain ⟨T, u, rfl, hT, rfl, hx⟩ := hy
    obtain ⟨d, hd, r⟩ := lz.get' (hx vs hq)
    obtain ⟨x1, S1, r1⟩ := pair_step S hT (RepL.cons (.int (i : Nat)) (.cons r .nil))
    exact ⟨_, x1, S1, _, enumD_get hd, r1⟩
theorem walk_et (h : ∀ (σ' : L2.St) (z : Z), SR P PV σ' z → (∀ a o, F0 a = some o → z.F a = some o) → SqT P.K z.H a vs) (l : RepL P F0 m0 vs xs) : WalkD P PV (IteT P.K a) (enumD xs) F0 m0 := fun i σ' z S kF km => by
  have hq := h σ' z S kF
  have lz := l.up' kF km
  have e := l.length
  rw [enumD_length]
  refine ⟨fun hi => ⟨?_, fun x H' hy => ?_⟩, fun hi => ⟨vs, hq, by omega⟩⟩
  · exact ⟨vs, vs[i]'(by omega), hq, List.getElem?_eq_getElem (by omega)⟩
  · obtain ⟨T, u, rfl, hT, rfl, hx⟩ := hy
    obtain ⟨d, hd, r⟩ := lz.get' (hx vs hq)
    obtain ⟨x1, S1, r1⟩ := pair_step S hT (RepL.cons (.int (i : Nat)) (.cons r .nil))
    exact ⟨_, x1, S1, _, enumD_get hd, r1⟩
theorem walk_r {lo : Int} {n : Nat} : WalkD P PV (Itr lo n) ((List.range n).map fun i => D.int (lo + (i : Nat))) F0 m0 := fun i σ' z S kF km => by
  refine ⟨fun hi => ⟨(by simpa using hi : i < n), fun v H' hy => ?_⟩, fun hi => by show n ≤ i; simp at hi; omega⟩
  obtain ⟨rfl, rfl⟩ := hy
  have hi : i < n := by simpa using hi
  exact ⟨z.F, EX.refl, S, .int (lo + i), by rw [List.getElem?_map, List.getElem?_range hi] <;> rfl, .int _⟩
theorem walk_c {lo c : Int} {n : Nat} : WalkD P PV (Itc lo c n) ((List.range n).map fun i => D.int (lo + (i : Nat) * c)) F0 m0 := fun i σ' z S kF km => by
  refine ⟨fun hi => ⟨(by simpa using hi : i < n), fun v H' hy => ?_⟩, fun hi => by show n ≤ i; simp at hi; omega⟩
  obtain ⟨rfl, rfl⟩ := hy
  have hi : i < n := by simpa using hi
  exact ⟨z.F, EX.refl, S, .int (lo + (i : Nat) * c), by rw [List.getElem?_map, List.getElem?_range hi] <;> rfl, .int _⟩
/-- a frozen list or tuple is what it is -/
theorem seq_rep {z : Z} {v : V} {d : D} (r : Rep P z.F z.m v d) : (∀ xs, d = .lst xs → ∃ a vs, v = .ref a ∧ RepL P z.F z.m vs xs ∧ ∀ (σ' : L2.St) (z' : Z), SR P PV σ' z' → (∀ a o, z.F a = some o → z'.F a = some o) → SqL P.K z'.H a vs) ∧
    (∀ xs, d = .tup xs ∨ d = .kt xs → ∃ a vs, v = .ref a ∧ RepL P z.F z.m vs xs ∧ ∀ (σ' : L2.St) (z' : Z), SR P PV σ' z' → (∀ a o, z.F a = some o → z'.F a = some o) → SqT P.K z'.H a vs) ∧
    (∀ ns, d = .scr ns → ∃ a, v = .ref a ∧ ∀ (σ' : L2.St) (z' : Z), SR P PV σ' z' → (∀ a o, z.F a = some o → z'.F a = some o) → SqL P.K z'.H a (ns.map V.int)) := by
  refine ⟨fun xs e => ?_, fun xs e => ?_, fun ns e => ?_⟩
  · subst e
    cases r with
    | @lst a vs _ h l => exact ⟨a, vs, rfl, l, fun σ' z' S k => SqL.of ((S.fz a _ (k a _ h)).elim id fun ⟨x, _⟩ => x.elim)⟩
  · rcases e with rfl | rfl
    · cases r with
      | @tup a vs _ h l => exact ⟨a, vs, rfl, l, fun σ' z' S k => SqT.of ((S.fz a _ (k a _ h)).elim id fun ⟨x, _⟩ => x.elim)⟩
    · cases r with
      | @kt a vs _ h l => exact ⟨a, vs, rfl, l, fun σ' z' S k => h _⟩
  · subst e
    cases r with
    | @scr a _ h => exact ⟨a, rfl, fun σ' z' S k => S.sqL (SqL.up k h)⟩
end
abbrev jrel (P : Par) (PV : List V) : Z → It → List D → Prop := fun z1 J xs => WalkD P PV J xs z1.F z1.m
section
variable {X : Cx} {G : Str → Addr} {PV : List V} {W : WX} {tg l e e2 : Expr} {f f2 : M E} {fl : M (List D)} {es : List Expr} {p pos tpos : Pos} {elts : List Expr} {kk : Nat}
theorem di_seq (hl : PE X l (LE (pk X G) PV W f)) : PI X tg l (LI (pk X G) PV W (itD f)) :=
  PIi (pi_seq (dd hl)) fun σ H R h => ld_bind (rel := fun _ => jrel (pk X G) PV) (fun _ q => q) h fun z1 v d S r A => by
    obtain ⟨h1, h2, h3⟩ := seq_rep (PV := PV) r
    unfold walkD at A
    split at A
    · obtain ⟨a, vs, rfl, l, hq⟩ := h2 _ (.inl rfl)
      exact .inl (.inr ⟨a, rfl, ⟨vs, hq _ _ S fun _ _ h => h⟩, A _ z1.F z1.H z1.m EX.refl S (walk_t hq l)⟩)
    · obtain ⟨a, vs, rfl, l, hq⟩ := h2 _ (.inr rfl)
      exact .inl (.inr ⟨a, rfl, ⟨vs, hq _ _ S fun _ _ h => h⟩, A _ z1.F z1.H z1.m EX.refl S (walk_t hq l)⟩)
    · obtain ⟨a, vs, rfl, l, hq⟩ := h1 _ rfl
      exact .inl (.inl ⟨a, rfl, ⟨vs, hq _ _ S fun _ _ h => h⟩, A _ z1.F z1.H z1.m EX.refl S (walk_l hq l)⟩)
    · obtain ⟨a, rfl, hq⟩ := h3 _ rfl
      exact .inl (.inl ⟨a, rfl, ⟨_, hq _ _ S fun _ _ h => h⟩, A _ z1.F z1.H z1.m EX.refl S (walk_l hq (RepL.ints _))⟩)
    · cases r
      exact .inr ⟨_, rfl, A _ z1.F z1.H z1.m EX.refl S walk_s⟩
    · exact A.elim
def wR1 (ds : List D) : M (List D) := fun ρ s => match ds with
  | [.int j] => if -(2 ^ 62) ≤ j ∧ j < 2 ^ 62 then .ok ((List.range j.toNat).map fun i => D.int (0 + (i : Nat))) ρ s else .no
  | _ => .no
def wR2 (ds : List D) : M (List D) := fun ρ s => match ds with
  | [.int i, .int j] => if -(2 ^ 62) ≤ i ∧ i < 2 ^ 62 ∧ -(2 ^ 62) ≤ j ∧ j < 2 ^ 62 then .ok ((List.range (j - i).toNat).map fun k => D.int (i + (k : Nat))) ρ s else .no
  | _ => .no
def wR3 (ds : List D) : M (List D) := fun ρ s => match ds with
  | [.int i, .int j, .int c] => if c ≠ 0 ∧ c.natAbs < 1073741824 ∧ Builtin.Range.small i j c = true ∧ 0 ≤ Builtin.Range.rangeSize i j c then .ok ((List.range (Builtin.Range.rangeSize i j c).toNat).map fun k => D.int (i + (k : Nat) * c)) ρ s else .no
  | _ => .no
theorem di_range1 (hg : Gl X "range") (hm : X.mg "range" = none) (ha : PA X [e] (LA (pk X G) PV W fl)) (hs : starEach [e] X.env = [(false, eval e X.env)] := by rfl) : PI X tg (.Call (.Name "range" p) [e] [] pos) (LI (pk X G) PV W (M.bind fl wR1)) :=
  PIi (pi_range1 hg hm ha hs) fun σ H R h => la_bind (rel := fun _ => jrel (pk X G) PV) (fun _ q => q) h fun z1 vs ds S l A => by
    unfold wR1 at A
    split at A
    · split at A
      · rename_i j hj
        obtain ⟨v, rfl, r⟩ := l.one
        cases r
        exact ⟨j, rfl, hj.1, hj.2, A _ z1.F z1.H z1.m EX.refl S walk_r⟩
      · exact A.elim
    · exact A.elim
theorem di_range2 {e2 : Expr} (hg : Gl X "range") (hm : X.mg "range" = none) (ha : PA X [e, e2] (LA (pk X G) PV W fl)) (hs : starEach [e, e2] X.env = [(false, eval e X.env), (false, eval e2 X.env)] := by rfl) (hs2 : starEach [e2] X.env = [(false, eval e2 X.env)] := by rfl) : PI X tg (.Call (.Name "range" p) [e, e2] [] pos) (LI (pk X G) PV W (M.bind fl wR2)) :=
  PIi (pi_range2 hg hm ha hs hs2) fun σ H R h => la_bind (rel := fun _ => jrel (pk X G) PV) (fun _ q => q) h fun z1 vs ds S l A => by
    unfold wR2 at A
    split at A
    · split at A
      · rename_i i j hj
        obtain ⟨v, v', rfl, r, r'⟩ := l.two
        cases r
        cases r'
        exact ⟨i, j, rfl, hj, A _ z1.F z1.H z1.m EX.refl S walk_r⟩
      · exact A.elim
    · exact A.elim
theorem RepL.three {P : Par} {F : Hp} {m : List Addr} {vs : List V} {d d' d'' : D} (h : RepL P F m vs [d, d', d'']) : ∃ v v' v'', vs = [v, v', v''] ∧ Rep P F m v d ∧ Rep P F m v' d' ∧ Rep P F m v'' d'' := by
  cases h with
  | cons r l =>
    obtain ⟨v', v'', rfl, r', r''⟩ := l.two
    exact ⟨_, v', v'', rfl, r, r', r''⟩
theorem di_range3 {a b c : Expr} (hg : Gl X "range") (hm : X.mg "range" = none) (ha : PA X [a, b, c] (LA (pk X G) PV W fl))
    (hs : starEach [a, b, c] X.env = (false, eval a X.env) :: starEach [b, c] X.env := by rfl) (hpl : (backTo pos (starEach [b, c] X.env)).any (·.1) = false := by rfl) : PI X tg (.Call (.Name "range" p) [a, b, c] [] pos) (LI (pk X G) PV W (M.bind fl wR3)) :=
  PIi (pi_range3 hg hm ha hs hpl) fun σ H R h => la_bind (rel := fun _ => jrel (pk X G) PV) (fun _ q => q) h fun z1 vs ds S l A => by
    unfold wR3 at A
    split at A
    · split at A
      · rename_i i j c hj
        obtain ⟨v, v', v'', rfl, r, r', r''⟩ := l.three
        cases r
        cases r'
        cases r''
        exact ⟨i, j, c, _, rfl, ⟨hj.1, hj.2.1, hj.2.2.1, by have := hj.2.2.2; omega⟩, A _ z1.F z1.H z1.m EX.refl S walk_c⟩
      · exact A.elim
    · exact A.elim
/-- enumerate -/
def wEnum (ds : List D) : M (List D) := fun ρ s => match ds with
  | [.tup xs] => .ok (enumD xs) ρ s
  | [.kt xs] => .ok (enumD xs) ρ s
  | [.lst xs] => .ok (enumD xs) ρ s
  | _ => .no
theorem di_enum (hg : Gl X "enumerate") (hm : X.mg "enumerate" = none) (ha : PA X [e] (LA (pk X G) PV W fl)) (hs : starEach [e] X.env = [(false, eval e X.env)] := by rfl) : PI X (.Tuple elts kk tpos) (.Call (.Name "enumerate" p) [e] [] pos) (LI (pk X G) PV W (M.bind fl wEnum)) :=
  PIi (pi_enumA hg hm ha hs) fun σ H R h => la_bind (rel := fun _ => jrel (pk X G) PV) (fun _ q => q) h fun z1 vs ds S l A => by
    unfold wEnum at A
    split at A
    · obtain ⟨v, rfl, r⟩ := l.one
      obtain ⟨_, h2, _⟩ := seq_rep (PV := PV) r
      obtain ⟨a, vs, rfl, l, hq⟩ := h2 _ (.inl rfl)
      exact ⟨a, vs, rfl, .inr ⟨hq _ _ S fun _ _ h => h, A _ z1.F z1.H z1.m EX.refl S (walk_et hq l)⟩⟩
    · obtain ⟨v, rfl, r⟩ := l.one
      obtain ⟨_, h2, _⟩ := seq_rep (PV := PV) r
      obtain ⟨a, vs, rfl, l, hq⟩ := h2 _ (.inr rfl)
      exact ⟨a, vs, rfl, .inr ⟨hq _ _ S fun _ _ h => h, A _ z1.F z1.H z1.m EX.refl S (walk_et hq l)⟩⟩
    · obtain ⟨v, rfl, r⟩ := l.one
      obtain ⟨h1, _, _⟩ := seq_rep (PV := PV) r
      obtain ⟨a, vs, rfl, l, hq⟩ := h1 _ rfl
      exact ⟨a, vs, rfl, .inl ⟨hq _ _ S fun _ _ h => h, A _ z1.F z1.H z1.m EX.refl S (walk_el hq l)⟩⟩
    · exact A.elim
end
end DL
set_option Elab.async false
set_option linter.all false
set_option maxRecDepth 100000
set_option maxHeartbeats 4000000
/-! DZ1: zip of two or three, each a list or a tuple. -/
namespace DZ
open PySem PySem.Spec PyProof.Rows L2
/-- what is walked: a list or a tuple -/
inductive Kd where | L | T
def Seq (k : Kd) (h : Heap) (l : Addr) (xs : Array Value) : Prop := match k with
  | .L => h.IsList l xs
  | .T => h.IsTuple l xs
def Itr (k : Kd) (h : Heap) (it l : Addr) (i : Nat) : Prop := match k with
  | .L => h.IsListIter it l i
  | .T => h.IsTupleIter it l i
def newIt (k : Kd) (l : Addr) : Obj := match k with
  | .L => { cls := .type "list_iterator", data := .fields #[.ref l, .int 0 0] }
  | .T => { cls := .type "tuple_iterator", data := .fields #[.ref l, .int 0 0] }
def SqK (k : Kd) (K : PySem.W.Frag) (H : Hp) (a : Addr) (xs : List V) : Prop := match k with
  | .L => SqL K H a xs
  | .T => SqT K H a xs
section
variable {k : Kd} {h h' : Heap} {it l a b : Addr} {i : Nat} {xs : Array Value}
theorem Itr.mv (x : Itr k h it l i) (e : ∀ o, h.get? it = some o → h'.get? it = some o) : Itr k h' it l i := by
  cases k with
  | L => exact Heap.IsListIter.at x e
  | T => exact Heap.IsTupleIter.at x e
theorem Itr.obj (x : Itr k h it l i) : ∃ o, h.get? it = some o ∧ ∀ v, o.data ≠ .cell v := by
  cases k with
  | L => obtain ⟨o, h1, h2, h3⟩ := x; exact ⟨o, h1, fun v q => by rw [h3] at q; cases q⟩
  | T => obtain ⟨o, h1, h2, h3⟩ := x; exact ⟨o, h1, fun v q => by rw [h3] at q; cases q⟩
theorem itr_new (e : h.get? it = some (newIt k l)) : Itr k h it l 0 := by
  cases k with
  | L => exact ⟨_, e, rfl, rfl⟩
  | T => exact ⟨_, e, rfl, rfl⟩
theorem Seq.lt (x : Seq k h l xs) : l < h.objs.size := by
  cases k with
  | L => obtain ⟨o, e, _⟩ := x; exact Heap.lt_size e
  | T => obtain ⟨o, e, _⟩ := x; exact Heap.lt_size e
theorem begins (k : Kd) (l : Addr) (xs : Array Value) : Begins (.ref l) (newIt k l) fun h => Seq k h l xs := by
  cases k with
  | L => exact begins_list l xs
  | T => exact begins_tuple l xs
theorem draws {prog : Program} {w : World} {A : Around} (k : Kd) (hh : A.handled = none) (it l : Addr) (hne : l ≠ it) (items : Array Value) :
    Draws prog w A it [it, l] items.size (fun i v => items[i]? = some v) (fun i h => Itr k h it l i ∧ Seq k h l items) := by
  cases k with
  | L => exact Draws.list hh it l hne items
  | T => exact Draws.tuple hh it l hne items
end
section
variable {k : Kd} {X : Cx} {pins : List (Addr × Obj)} {σ : L2.St} {H : Hp} {s : Shared} {a : Addr} {xs ys : List V}
theorem sqK_its (I : Inv X pins σ H s) (h : SqK k X.K H a xs) : ∃ its : List Value, Vals xs its ∧ Seq k s.heap a its.toArray := by
  cases k with
  | L => obtain ⟨its, rv, p, _⟩ := I.list h; exact ⟨its, rv, p.isList⟩
  | T => obtain ⟨its, rv, p, _⟩ := I.tuple h; exact ⟨its, rv, p⟩
theorem sqK_inj (I : Inv X pins σ H s) (h : SqK k X.K H a xs) (h' : SqK k X.K H a ys) : xs = ys := by
  cases k with
  | L => exact I.list_inj h h'
  | T => exact I.tuple_inj h h'
end
/-! ### two -/
def It2 (K : PySem.W.Frag) (k1 k2 : Kd) (a b : Addr) : It :=
  ⟨fun i H => ∃ (xs ys : List V) (x y : V), SqK k1 K H a xs ∧ SqK k2 K H b ys ∧ xs[i]? = some x ∧ ys[i]? = some y,
    fun i H v H' => ∃ T x y, v = .ref T ∧ H T = none ∧ H' = upd H T (.tup [x, y]) ∧ (∀ xs, SqK k1 K H a xs → xs[i]? = some x) ∧ ∀ ys, SqK k2 K H b ys → ys[i]? = some y,
    fun i H => ∃ xs ys : List V, SqK k1 K H a xs ∧ SqK k2 K H b ys ∧ i ≤ xs.length ∧ i ≤ ys.length ∧ (xs.length = i ∨ ys.length = i)⟩
theorem turn2 {P : Program} {w : World} {K : PySem.W.Frag} {elts : List Expr} {kk : Nat} {tpos : Pos} {k1 k2 : Kd} {a b z TI TO i1 i2 : Addr} (S : ZipSep2 z TI TO i1 i2 [i1, a] [i2, b]) (n1 : a ≠ i1) (n2 : b ≠ i2) :
    Turn P w K (.Tuple elts kk tpos) (It2 K k1 k2 a b) [z, TI, TO, i1, i2] z (fun i h => IsZip h z TI TO .none ∧ IsTupOf2 h TI (.ref i1) (.ref i2) ∧ (∃ x y, IsTupOf2 h TO x y) ∧ Itr k1 h i1 a i ∧ Itr k2 h i2 b i) where
  mem := by simp
  obj := fun i h st c hc => by
    obtain ⟨hz, hTI, ⟨x, y, hTO⟩, h1, h2⟩ := st
    have e' : c = z ∨ c = TI ∨ c = TO ∨ c = i1 ∨ c = i2 := by simpa using hc
    rcases e' with rfl | rfl | rfl | rfl | rfl
    · exact ⟨_, hz, fun v q => nomatch q⟩
    · exact ⟨_, hTI, fun v q => nomatch q⟩
    · exact ⟨_, hTO, fun v q => nomatch q⟩
    · exact h1.obj
    · exact h2.obj
  keep := fun i h h' st k => by
    obtain ⟨hz, hTI, ⟨x, y, hTO⟩, h1, h2⟩ := st
    exact ⟨k z (by simp) _ hz, k TI (by simp) _ hTI, ⟨x, y, k TO (by simp) _ hTO⟩, h1.mv fun o q => k i1 (by simp) o q, h2.mv fun o q => k i2 (by simp) o q⟩
  item := by
    intro X hP hw hK hc i pins s σ H E I hf st hg
    subst hP hw hK
    obtain ⟨hz, hTI, ⟨x0, y0, hTO⟩, h1, h2⟩ := st
    obtain ⟨xs, ys, x, y, hqx, hqy, hx, hy⟩ := hg
    obtain ⟨its, rv, p⟩ := sqK_its I hqx
    obtain ⟨its2, rv2, p2⟩ := sqK_its I hqy
    have hzl : z < s.heap.objs.size := Heap.lt_size hz
    have hlx := (List.getElem?_eq_some_iff.mp hx).1
    have hly := (List.getElem?_eq_some_iff.mp hy).1
    have l1 := rv.length
    have l2 := rv2.length
    have hh : X.A.in1.handled = none := I.ok.hd hc
    refine wpAny_pyNext_zipD2_item S (draws k1 hh i1 a n1 its.toArray) (draws k2 hh i2 b n2 its2.toArray) hz hTI hTO ⟨h1, p⟩ ⟨h2, p2⟩ (by simp; omega) (by simp; omega) fun u u2 h' tk pu pu2 z' TO' h1' h2' hT hsz hk => ?_
    have hu : its[i]? = some u := by simpa using pu
    have hu2 : its2[i]? = some u2 := by simpa using pu2
    obtain ⟨v, hv, ru⟩ := rv.get hx
    obtain ⟨v2, hv2, ru2⟩ := rv2.get hy
    have e1 : v = u := Option.some.inj (hv.symm.trans hu)
    have e2 : v2 = u2 := Option.some.inj (hv2.symm.trans hu2)
    subst e1 e2
    refine ⟨_, rfl, wpAny_letOwnedTupleGo_zip (s := { s with heap := h', toks := tk }) z' fun h'' z'' sb => ?_⟩
    have hT2 : h''.get? s.heap.objs.size = some { cls := .type "tuple", data := .seq #[v, v2] } := (sb.2 _ (Nat.ne_of_gt hzl)).trans hT
    have new : ObjOk X.prog X.w (upd H s.heap.objs.size (.tup [x, y])) h'' s.heap.objs.size (.tup [x, y]) :=
      ⟨by show 2 ≤ sizeLine; decide, [v, v2], .cons ru (.cons ru2 .nil), ⟨_, hT2, rfl, _, rfl⟩⟩
    have I1 : Inv X pins σ (upd H s.heap.objs.size (.tup [x, y])) { s with heap := h'', toks := tk } :=
      I.turnedNew (t' := tk) (ch := [z, TI, TO, i1, i2]) (fun c o hb q => (sb.2 c (fun q' => hb (by simp [q']))).trans (hk c o (fun q' => hb (by simp [q'])) (fun q' => hb (by simp [q'])) (fun q' => hb (by simp [q'])) (fun q' => hb (by simp [q'])) q)) hf (Nat.le_refl _) new
    refine ⟨.ref s.heap.objs.size, _, I1, rfl, ⟨_, x, y, rfl, I.hok.fresh (Nat.le_refl _), rfl, fun l hl => by rw [sqK_inj I hl hqx]; exact hx, fun l hl => by rw [sqK_inj I hl hqy]; exact hy⟩, ⟨z'', ?_, ⟨v, v2, ?_⟩, ?_, ?_⟩, fun c hcm => ?_⟩
    · exact (sb.2 _ S.TIz).trans (hk _ _ S.TIz S.TITO S.TIi1 S.TIi2 hTI)
    · exact (sb.2 _ S.TOz).trans TO'
    · exact h1'.1.mv fun o q => (sb.2 _ S.zi1.symm).trans q
    · exact h2'.1.mv fun o q => (sb.2 _ S.zi2.symm).trans q
    · have hlt : c < s.heap.objs.size := by
        have e' : c = z ∨ c = TI ∨ c = TO ∨ c = i1 ∨ c = i2 := by simpa using hcm
        rcases e' with rfl | rfl | rfl | rfl | rfl
        · exact hzl
        · exact Heap.lt_size hTI
        · exact Heap.lt_size hTO
        · obtain ⟨_, e1, _⟩ := h1.obj; exact Heap.lt_size e1
        · obtain ⟨_, e2, _⟩ := h2.obj; exact Heap.lt_size e2
      rw [upd_ne (Nat.ne_of_lt hlt)]
      exact (hf c hcm).1
  done := by
    intro X hP hw hK hc i pins s σ H E I hf st hg
    subst hP hw hK
    obtain ⟨hz, hTI, ⟨x0, y0, hTO⟩, h1, h2⟩ := st
    obtain ⟨xs, ys, hqx, hqy, hle1, hle2, hend⟩ := hg
    obtain ⟨its, rv, p⟩ := sqK_its I hqx
    obtain ⟨its2, rv2, p2⟩ := sqK_its I hqy
    have l1 := rv.length
    have l2 := rv2.length
    have hh : X.A.in1.handled = none := I.ok.hd hc
    exact wpAny_pyNext_zipD2_end S (draws k1 hh i1 a n1 its.toArray) (draws k2 hh i2 b n2 its2.toArray) hz hTI hTO ⟨h1, p⟩ ⟨h2, p2⟩ (by simp; omega) (by simp; omega) (by simp; omega) fun h' tk hk => ⟨rfl, I.turnedL (t' := tk) (ch := [z, TI, TO, i1, i2]) (fun c o hb q =>
      hk c o (fun q' => hb (by simp [q'])) (fun q' => hb (by simp [q'])) (fun q' => hb (by simp [q'])) (fun q' => hb (by simp [q'])) q) hf⟩
  self := fun A i s Q E st h => wpAny_pyIter_zip st.1 h
def iZip2 (K : PySem.W.Frag) (ta : TA) : TI := fun σ H R => ta σ H fun vs H1 => ∃ k1 k2 a b xs ys, vs = [.ref a, .ref b] ∧ SqK k1 K H1 a xs ∧ SqK k2 K H1 b ys ∧ R (It2 K k1 k2 a b) H1
theorem pi_zip2 {X : Cx} {e e2 : Expr} {ta : TA} {p pos tpos : Pos} {elts : List Expr} {kk : Nat} (hg : Gl X "zip") (hm : X.mg "zip" = none) (ha : PA X [e, e2] ta)
    (hs : starEach [e, e2] X.env = (false, eval e X.env) :: starEach [e2] X.env := by rfl) (hpl : (backTo pos (starEach [e2] X.env)).any (·.1) = false := by rfl) :
    PI X (.Tuple elts kk tpos) (.Call (.Name "zip" p) [e, e2] [] pos) (iZip2 X.K ta) := by
  refine ⟨fun pins s σ H R I h => ?_⟩
  refine Call_ (ld_blt I hg hm PyProof.Rows.boot_zip (PyProof.Rows.callWith_type1 (thn (ha.run pos pins s σ H _ I h) fun us s1 ⟨vs, H1, I1, r1, q1⟩ => ?_) hs hpl))
  obtain ⟨k1, k2, a, b, xs, ys, ex, hqx, hqy, q⟩ := q1
  subst ex
  cases r1 with
  | cons r rr =>
    cases rr with
    | cons r' rr =>
      cases rr
      cases r
      cases r'
      obtain ⟨its, rv, p1⟩ := sqK_its I1 hqx
      obtain ⟨its2, rv2, p2⟩ := sqK_its I1 hqy
      have la := p1.lt
      have lb := p2.lt
      refine zip_begins2 (begins k1 a its.toArray) (begins k2 b its2.toArray) p1 p2 fun h' hz hTI hTO h1 h2 hsz hk => wpAny_pyIter_zip hz ?_
      have I2 : Inv X pins σ H1 { s1 with heap := h' } := I1.kept (t' := s1.toks) hk
      refine ⟨s1.heap.objs.size + 4, [s1.heap.objs.size + 4, s1.heap.objs.size + 2, s1.heap.objs.size + 3, s1.heap.objs.size, s1.heap.objs.size + 1], _, _, H1, rfl, I2,
        turn2 (zip_sep2 (fp1 := [a]) (fp2 := [b]) (fun c hc => by rw [List.mem_singleton.mp hc]; exact la) (fun c hc => by rw [List.mem_singleton.mp hc]; exact lb)) (Nat.ne_of_lt la) (Nat.ne_of_lt (Nat.lt_succ_of_lt lb)), ⟨hz, hTI, ⟨_, _, hTO⟩, itr_new h1, itr_new h2⟩, fun c hcm => ?_, q⟩
      have e' : c = s1.heap.objs.size + 4 ∨ c = s1.heap.objs.size + 2 ∨ c = s1.heap.objs.size + 3 ∨ c = s1.heap.objs.size ∨ c = s1.heap.objs.size + 1 := by simpa using hcm
      have hle : s1.heap.objs.size ≤ c := by
        rcases e' with z | z | z | z | z
        · rw [z]; exact Nat.le_add_right _ _
        · rw [z]; exact Nat.le_add_right _ _
        · rw [z]; exact Nat.le_add_right _ _
        · rw [z]; exact Nat.le_refl _
        · rw [z]; exact Nat.le_add_right _ _
      exact I1.fpOk hle (I1.hok.fresh hle)
/-! ### three -/
def It3 (K : PySem.W.Frag) (k1 k2 k3 : Kd) (a b c : Addr) : It :=
  ⟨fun i H => ∃ (xs ys zs : List V) (x y z : V), SqK k1 K H a xs ∧ SqK k2 K H b ys ∧ SqK k3 K H c zs ∧ xs[i]? = some x ∧ ys[i]? = some y ∧ zs[i]? = some z,
    fun i H v H' => ∃ T x y z, v = .ref T ∧ H T = none ∧ H' = upd H T (.tup [x, y, z]) ∧ (∀ xs, SqK k1 K H a xs → xs[i]? = some x) ∧ (∀ ys, SqK k2 K H b ys → ys[i]? = some y) ∧ ∀ zs, SqK k3 K H c zs → zs[i]? = some z,
    fun i H => ∃ xs ys zs : List V, SqK k1 K H a xs ∧ SqK k2 K H b ys ∧ SqK k3 K H c zs ∧ i ≤ xs.length ∧ i ≤ ys.length ∧ i ≤ zs.length ∧ (xs.length = i ∨ ys.length = i ∨ zs.length = i)⟩
theorem turn3 {P : Program} {w : World} {K : PySem.W.Frag} {elts : List Expr} {kk : Nat} {tpos : Pos} {k1 k2 k3 : Kd} {a b d z TI TO i1 i2 i3 : Addr} (S : ZipSep3 z TI TO i1 i2 i3 [i1, a] [i2, b] [i3, d]) (n1 : a ≠ i1) (n2 : b ≠ i2) (n3 : d ≠ i3) :
    Turn P w K (.Tuple elts kk tpos) (It3 K k1 k2 k3 a b d) [z, TI, TO, i1, i2, i3] z (fun i h => IsZip h z TI TO .none ∧ IsTupOf3 h TI (.ref i1) (.ref i2) (.ref i3) ∧ (∃ x y u, IsTupOf3 h TO x y u) ∧ Itr k1 h i1 a i ∧ Itr k2 h i2 b i ∧ Itr k3 h i3 d i) where
  mem := by simp
  obj := fun i h st c hc => by
    obtain ⟨hz, hTI, ⟨x, y, u, hTO⟩, h1, h2, h3⟩ := st
    have e' : c = z ∨ c = TI ∨ c = TO ∨ c = i1 ∨ c = i2 ∨ c = i3 := by simpa using hc
    rcases e' with rfl | rfl | rfl | rfl | rfl | rfl
    · exact ⟨_, hz, fun v q => nomatch q⟩
    · exact ⟨_, hTI, fun v q => nomatch q⟩
    · exact ⟨_, hTO, fun v q => nomatch q⟩
    · exact h1.obj
    · exact h2.obj
    · exact h3.obj
  keep := fun i h h' st k => by
    obtain ⟨hz, hTI, ⟨x, y, u, hTO⟩, h1, h2, h3⟩ := st
    exact ⟨k z (by simp) _ hz, k TI (by simp) _ hTI, ⟨x, y, u, k TO (by simp) _ hTO⟩, h1.mv fun o q => k i1 (by simp) o q, h2.mv fun o q => k i2 (by simp) o q, h3.mv fun o q => k i3 (by simp) o q⟩
  item := by
    intro X hP hw hK hc i pins s σ H E I hf st hg
    subst hP hw hK
    obtain ⟨hz, hTI, ⟨x0, y0, u0, hTO⟩, h1, h2, h3⟩ := st
    obtain ⟨xs, ys, zs, x, y, u, hqx, hqy, hqz, hx, hy, hu⟩ := hg
    obtain ⟨its, rv, p⟩ := sqK_its I hqx
    obtain ⟨its2, rv2, p2⟩ := sqK_its I hqy
    obtain ⟨its3, rv3, p3⟩ := sqK_its I hqz
    have hzl : z < s.heap.objs.size := Heap.lt_size hz
    have hlx := (List.getElem?_eq_some_iff.mp hx).1
    have hly := (List.getElem?_eq_some_iff.mp hy).1
    have hlz := (List.getElem?_eq_some_iff.mp hu).1
    have l1 := rv.length
    have l2 := rv2.length
    have l3 := rv3.length
    have hh : X.A.in1.handled = none := I.ok.hd hc
    refine wpAny_pyNext_zipD3_item S (draws k1 hh i1 a n1 its.toArray) (draws k2 hh i2 b n2 its2.toArray) (draws k3 hh i3 d n3 its3.toArray) hz hTI hTO ⟨h1, p⟩ ⟨h2, p2⟩ ⟨h3, p3⟩ (by simp; omega) (by simp; omega) (by simp; omega) fun w1 w2 w3 h' tk pu pu2 pu3 z' TO' h1' h2' h3' hT hsz hk => ?_
    have g1 : its[i]? = some w1 := by simpa using pu
    have g2 : its2[i]? = some w2 := by simpa using pu2
    have g3 : its3[i]? = some w3 := by simpa using pu3
    obtain ⟨v, hv, ru⟩ := rv.get hx
    obtain ⟨v2, hv2, ru2⟩ := rv2.get hy
    obtain ⟨v3, hv3, ru3⟩ := rv3.get hu
    have e1 : v = w1 := Option.some.inj (hv.symm.trans g1)
    have e2 : v2 = w2 := Option.some.inj (hv2.symm.trans g2)
    have e3 : v3 = w3 := Option.some.inj (hv3.symm.trans g3)
    subst e1 e2 e3
    refine ⟨_, rfl, wpAny_letOwnedTupleGo_zip (s := { s with heap := h', toks := tk }) z' fun h'' z'' sb => ?_⟩
    have hT2 : h''.get? s.heap.objs.size = some { cls := .type "tuple", data := .seq #[v, v2, v3] } := (sb.2 _ (Nat.ne_of_gt hzl)).trans hT
    have new : ObjOk X.prog X.w (upd H s.heap.objs.size (.tup [x, y, u])) h'' s.heap.objs.size (.tup [x, y, u]) :=
      ⟨by show 3 ≤ sizeLine; decide, [v, v2, v3], .cons ru (.cons ru2 (.cons ru3 .nil)), ⟨_, hT2, rfl, _, rfl⟩⟩
    have I1 : Inv X pins σ (upd H s.heap.objs.size (.tup [x, y, u])) { s with heap := h'', toks := tk } :=
      I.turnedNew (t' := tk) (ch := [z, TI, TO, i1, i2, i3]) (fun c o hb q => (sb.2 c (fun q' => hb (by simp [q']))).trans (hk c o (fun q' => hb (by simp [q'])) (fun q' => hb (by simp [q'])) (fun q' => hb (by simp [q'])) (fun q' => hb (by simp [q'])) (fun q' => hb (by simp [q'])) q)) hf (Nat.le_refl _) new
    refine ⟨.ref s.heap.objs.size, _, I1, rfl, ⟨_, x, y, u, rfl, I.hok.fresh (Nat.le_refl _), rfl, fun l hl => by rw [sqK_inj I hl hqx]; exact hx, fun l hl => by rw [sqK_inj I hl hqy]; exact hy, fun l hl => by rw [sqK_inj I hl hqz]; exact hu⟩, ⟨z'', ?_, ⟨v, v2, v3, ?_⟩, ?_, ?_, ?_⟩, fun c hcm => ?_⟩
    · exact (sb.2 _ S.TIz).trans (hk _ _ S.TIz S.TITO S.TIi1 S.TIi2 S.TIi3 hTI)
    · exact (sb.2 _ S.TOz).trans TO'
    · exact h1'.1.mv fun o q => (sb.2 _ S.zi1.symm).trans q
    · exact h2'.1.mv fun o q => (sb.2 _ S.zi2.symm).trans q
    · exact h3'.1.mv fun o q => (sb.2 _ S.zi3.symm).trans q
    · have hlt : c < s.heap.objs.size := by
        have e' : c = z ∨ c = TI ∨ c = TO ∨ c = i1 ∨ c = i2 ∨ c = i3 := by simpa using hcm
        rcases e' with rfl | rfl | rfl | rfl | rfl | rfl
        · exact hzl
        · exact Heap.lt_size hTI
        · exact Heap.lt_size hTO
        · obtain ⟨_, e1, _⟩ := h1.obj; exact Heap.lt_size e1
        · obtain ⟨_, e2, _⟩ := h2.obj; exact Heap.lt_size e2
        · obtain ⟨_, e3, _⟩ := h3.obj; exact Heap.lt_size e3
      rw [upd_ne (Nat.ne_of_lt hlt)]
      exact (hf c hcm).1
  done := by
    intro X hP hw hK hc i pins s σ H E I hf st hg
    subst hP hw hK
    obtain ⟨hz, hTI, ⟨x0, y0, u0, hTO⟩, h1, h2, h3⟩ := st
    obtain ⟨xs, ys, zs, hqx, hqy, hqz, hle1, hle2, hle3, hend⟩ := hg
    obtain ⟨its, rv, p⟩ := sqK_its I hqx
    obtain ⟨its2, rv2, p2⟩ := sqK_its I hqy
    obtain ⟨its3, rv3, p3⟩ := sqK_its I hqz
    have l1 := rv.length
    have l2 := rv2.length
    have l3 := rv3.length
    have hh : X.A.in1.handled = none := I.ok.hd hc
    exact wpAny_pyNext_zipD3_end S (draws k1 hh i1 a n1 its.toArray) (draws k2 hh i2 b n2 its2.toArray) (draws k3 hh i3 d n3 its3.toArray) hz hTI hTO ⟨h1, p⟩ ⟨h2, p2⟩ ⟨h3, p3⟩ (by simp; omega) (by simp; omega) (by simp; omega) (by simp; omega) fun h' tk hk => ⟨rfl, I.turnedL (t' := tk) (ch := [z, TI, TO, i1, i2, i3]) (fun c o hb q =>
      hk c o (fun q' => hb (by simp [q'])) (fun q' => hb (by simp [q'])) (fun q' => hb (by simp [q'])) (fun q' => hb (by simp [q'])) (fun q' => hb (by simp [q'])) q) hf⟩
  self := fun A i s Q E st h => wpAny_pyIter_zip st.1 h
def iZip3 (K : PySem.W.Frag) (ta : TA) : TI := fun σ H R => ta σ H fun vs H1 => ∃ k1 k2 k3 a b c xs ys zs, vs = [.ref a, .ref b, .ref c] ∧ SqK k1 K H1 a xs ∧ SqK k2 K H1 b ys ∧ SqK k3 K H1 c zs ∧ R (It3 K k1 k2 k3 a b c) H1
theorem pi_zip3 {X : Cx} {e e2 e3 : Expr} {ta : TA} {p pos tpos : Pos} {elts : List Expr} {kk : Nat} (hg : Gl X "zip") (hm : X.mg "zip" = none) (ha : PA X [e, e2, e3] ta)
    (hs : starEach [e, e2, e3] X.env = (false, eval e X.env) :: starEach [e2, e3] X.env := by rfl) (hpl : (backTo pos (starEach [e2, e3] X.env)).any (·.1) = false := by rfl) :
    PI X (.Tuple elts kk tpos) (.Call (.Name "zip" p) [e, e2, e3] [] pos) (iZip3 X.K ta) := by
  refine ⟨fun pins s σ H R I h => ?_⟩
  refine Call_ (ld_blt I hg hm PyProof.Rows.boot_zip (PyProof.Rows.callWith_type1 (thn (ha.run pos pins s σ H _ I h) fun us s1 ⟨vs, H1, I1, r1, q1⟩ => ?_) hs hpl))
  obtain ⟨k1, k2, k3, a, b, d, xs, ys, zs, ex, hqx, hqy, hqz, q⟩ := q1
  subst ex
  cases r1 with
  | cons r rr =>
    cases rr with
    | cons r' rr =>
      cases rr with
      | cons r'' rr =>
        cases rr
        cases r
        cases r'
        cases r''
        obtain ⟨its, rv, p1⟩ := sqK_its I1 hqx
        obtain ⟨its2, rv2, p2⟩ := sqK_its I1 hqy
        obtain ⟨its3, rv3, p3⟩ := sqK_its I1 hqz
        have la := p1.lt
        have lb := p2.lt
        have ld := p3.lt
        refine zip_begins3 (begins k1 a its.toArray) (begins k2 b its2.toArray) (begins k3 d its3.toArray) p1 p2 p3 fun h' hz hTI hTO h1 h2 h3 hsz hk => wpAny_pyIter_zip hz ?_
        have I2 : Inv X pins σ H1 { s1 with heap := h' } := I1.kept (t' := s1.toks) hk
        refine ⟨s1.heap.objs.size + 5, [s1.heap.objs.size + 5, s1.heap.objs.size + 3, s1.heap.objs.size + 4, s1.heap.objs.size, s1.heap.objs.size + 1, s1.heap.objs.size + 2], _, _, H1, rfl, I2,
          turn3 (zip_sep3 (fp1 := [a]) (fp2 := [b]) (fp3 := [d]) (fun c hc => by rw [List.mem_singleton.mp hc]; exact la) (fun c hc => by rw [List.mem_singleton.mp hc]; exact lb) (fun c hc => by rw [List.mem_singleton.mp hc]; exact ld)) (Nat.ne_of_lt la) (Nat.ne_of_lt (Nat.lt_succ_of_lt lb)) (Nat.ne_of_lt (Nat.lt_succ_of_lt (Nat.lt_succ_of_lt ld))), ⟨hz, hTI, ⟨_, _, _, hTO⟩, itr_new h1, itr_new h2, itr_new h3⟩, fun c hcm => ?_, q⟩
        have e' : c = s1.heap.objs.size + 5 ∨ c = s1.heap.objs.size + 3 ∨ c = s1.heap.objs.size + 4 ∨ c = s1.heap.objs.size ∨ c = s1.heap.objs.size + 1 ∨ c = s1.heap.objs.size + 2 := by simpa using hcm
        have hle : s1.heap.objs.size ≤ c := by
          rcases e' with z | z | z | z | z | z
          · rw [z]; exact Nat.le_add_right _ _
          · rw [z]; exact Nat.le_add_right _ _
          · rw [z]; exact Nat.le_add_right _ _
          · rw [z]; exact Nat.le_refl _
          · rw [z]; exact Nat.le_add_right _ _
          · rw [z]; exact Nat.le_add_right _ _
        exact I1.fpOk hle (I1.hok.fresh hle)
end DZ
set_option Elab.async false
set_option linter.all false
set_option maxRecDepth 100000
set_option maxHeartbeats 4000000
/-! DL27: zip of two; join; lists and tuples repeated. -/
namespace DL
open PySem L2 PySem.Spec PyProof.Rows
def zipD (xs ys : List D) : List D := xs.zipWith (fun a b => D.tup [a, b]) ys
theorem zipD_length (xs ys : List D) : (zipD xs ys).length = min xs.length ys.length := List.length_zipWith
theorem zipD_get {xs ys : List D} {i : Nat} {a b : D} (h : xs[i]? = some a) (h' : ys[i]? = some b) : (zipD xs ys)[i]? = some (.tup [a, b]) := by
  unfold zipD
  rw [List.getElem?_zipWith, h, h']
def zip3D (xs ys zs : List D) : List D := (zipD ys zs).zipWith (fun p a => match p with
  | .tup [b, c] => D.tup [a, b, c]
  | d => d) xs
theorem zip3D_length (xs ys zs : List D) : (zip3D xs ys zs).length = min (min ys.length zs.length) xs.length := by
  unfold zip3D
  rw [List.length_zipWith, zipD_length]
theorem zip3D_get {xs ys zs : List D} {i : Nat} {a b c : D} (h : xs[i]? = some a) (h' : ys[i]? = some b) (h2 : zs[i]? = some c) : (zip3D xs ys zs)[i]? = some (.tup [a, b, c]) := by
  unfold zip3D
  rw [List.getElem?_zipWith, h, zipD_get h' h2]
section
open DZ
variable {P : Par} {PV : List V} {F0 : Hp} {m0 : List Addr} {a b c : Addr} {vs ws us : List V} {xs ys zs : List D} {k1 k2 k3 : Kd}
theorem walk_z2 (h : ∀ (σ' : L2.St) (z : Z), SR P PV σ' z → (∀ a o, F0 a = some o → z.F a = some o) → SqK k1 P.K z.H a vs) (l : RepL P F0 m0 vs xs)
    (h2 : ∀ (σ' : L2.St) (z : Z), SR P PV σ' z → (∀ a o, F0 a = some o → z.F a = some o) → SqK k2 P.K z.H b ws) (l2 : RepL P F0 m0 ws ys) : WalkD P PV (It2 P.K k1 k2 a b) (zipD xs ys) F0 m0 := fun i σ' z S kF km => by
  have hq := h σ' z S kF
  have hq2 := h2 σ' z S kF
  have lz := l.up' kF km
  have lz2 := l2.up' kF km
  have e := l.length
  have e2 := l2.length
  rw [zipD_length]
  refine ⟨fun hi => ⟨?_, fun x H' hy => ?_⟩, fun hi => ⟨vs, ws, hq, hq2, by omega, by omega, by omega⟩⟩
  · exact ⟨vs, ws, vs[i]'(by omega), ws[i]'(by omega), hq, hq2, List.getElem?_eq_getElem (by omega), List.getElem?_eq_getElem (by omega)⟩
  · obtain ⟨T, u, w, rfl, hT, rfl, hx, hy⟩ := hy
    obtain ⟨d, hd, r⟩ := lz.get' (hx vs hq)
    obtain ⟨d2, hd2, r2⟩ := lz2.get' (hy ws hq2)
    obtain ⟨x1, S1, r1⟩ := pair_step S hT (RepL.cons r (.cons r2 .nil))
    exact ⟨_, x1, S1, _, zipD_get hd hd2, r1⟩
theorem walk_z3 (h : ∀ (σ' : L2.St) (z : Z), SR P PV σ' z → (∀ a o, F0 a = some o → z.F a = some o) → SqK k1 P.K z.H a vs) (l : RepL P F0 m0 vs xs)
    (h2 : ∀ (σ' : L2.St) (z : Z), SR P PV σ' z → (∀ a o, F0 a = some o → z.F a = some o) → SqK k2 P.K z.H b ws) (l2 : RepL P F0 m0 ws ys)
    (h3 : ∀ (σ' : L2.St) (z : Z), SR P PV σ' z → (∀ a o, F0 a = some o → z.F a = some o) → SqK k3 P.K z.H c us) (l3 : RepL P F0 m0 us zs) : WalkD P PV (It3 P.K k1 k2 k3 a b c) (zip3D xs ys zs) F0 m0 := fun i σ' z S kF km => by
  have hq := h σ' z S kF
  have hq2 := h2 σ' z S kF
  have hq3 := h3 σ' z S kF
  have lz := l.up' kF km
  have lz2 := l2.up' kF km
  have lz3 := l3.up' kF km
  have e := l.length
  have e2 := l2.length
  have e3 := l3.length
  rw [zip3D_length]
  refine ⟨fun hi => ⟨?_, fun x H' hy => ?_⟩, fun hi => ⟨vs, ws, us, hq, hq2, hq3, by omega, by omega, by omega, by omega⟩⟩
  · exact ⟨vs, ws, us, vs[i]'(by omega), ws[i]'(by omega), us[i]'(by omega), hq, hq2, hq3, List.getElem?_eq_getElem (by omega), List.getElem?_eq_getElem (by omega), List.getElem?_eq_getElem (by omega)⟩
  · obtain ⟨T, u, w, y, rfl, hT, rfl, hx, hy, hz⟩ := hy
    obtain ⟨d, hd, r⟩ := lz.get' (hx vs hq)
    obtain ⟨d2, hd2, r2⟩ := lz2.get' (hy ws hq2)
    obtain ⟨d3, hd3, r3⟩ := lz3.get' (hz us hq3)
    obtain ⟨x1, S1, r1⟩ := pair_step S hT (RepL.cons r (.cons r2 (.cons r3 .nil)))
    exact ⟨_, x1, S1, _, zip3D_get hd hd2 hd3, r1⟩
def seqD : D → Option (List D)
  | .tup xs => some xs
  | .kt xs => some xs
  | .lst xs => some xs
  | _ => none
def wZip (ds : List D) : M (List D) := fun ρ s => match ds with
  | [a, b] => match seqD a, seqD b with
    | some xs, some ys => .ok (zipD xs ys) ρ s
    | _, _ => .no
  | _ => .no
def wZip3 (ds : List D) : M (List D) := fun ρ s => match ds with
  | [a, b, c] => match seqD a, seqD b, seqD c with
    | some xs, some ys, some zs => .ok (zip3D xs ys zs) ρ s
    | _, _, _ => .no
  | _ => .no
theorem seqD_rep {z : Z} {v : V} {d : D} {xs : List D} (r : Rep P z.F z.m v d) (h : seqD d = some xs) : ∃ k a vs, v = .ref a ∧ RepL P z.F z.m vs xs ∧ ∀ (σ' : L2.St) (z' : Z), SR P PV σ' z' → (∀ a o, z.F a = some o → z'.F a = some o) → SqK k P.K z'.H a vs := by
  obtain ⟨h1, h2, _⟩ := seq_rep (PV := PV) r
  cases d <;> first | (cases h; done) | skip
  · cases h
    obtain ⟨a, vs, e, l, q⟩ := h2 _ (.inl rfl)
    exact ⟨.T, a, vs, e, l, q⟩
  · cases h
    obtain ⟨a, vs, e, l, q⟩ := h1 _ rfl
    exact ⟨.L, a, vs, e, l, q⟩
  · cases h
    obtain ⟨a, vs, e, l, q⟩ := h2 _ (.inr rfl)
    exact ⟨.T, a, vs, e, l, q⟩
end
section
open DZ
variable {X : Cx} {G : Str → Addr} {PV : List V} {W : WX} {e e2 e3 : Expr} {fl : M (List D)} {p pos tpos : Pos} {elts : List Expr} {kk : Nat}
theorem di_zip (hg : Gl X "zip") (hm : X.mg "zip" = none) (ha : PA X [e, e2] (LA (pk X G) PV W fl)) (hs : starEach [e, e2] X.env = (false, eval e X.env) :: starEach [e2] X.env := by rfl) (hpl : (backTo pos (starEach [e2] X.env)).any (·.1) = false := by rfl) :
    PI X (.Tuple elts kk tpos) (.Call (.Name "zip" p) [e, e2] [] pos) (LI (pk X G) PV W (M.bind fl wZip)) :=
  PIi (pi_zip2 hg hm ha hs hpl) fun σ H R h => la_bind (rel := fun _ => jrel (pk X G) PV) (fun _ q => q) h fun z1 vs ds S l A => by
    unfold wZip at A
    split at A
    · rename_i da db
      obtain ⟨v, v', rfl, r, r'⟩ := l.two
      split at A
      · rename_i xs ys hx hy
        obtain ⟨k1, a, us, rfl, l1, hq⟩ := seqD_rep (PV := PV) r hx
        obtain ⟨k2, b, ws, rfl, l2, hq2⟩ := seqD_rep (PV := PV) r' hy
        exact ⟨k1, k2, a, b, us, ws, rfl, hq _ _ S fun _ _ h => h, hq2 _ _ S fun _ _ h => h, A _ z1.F z1.H z1.m EX.refl S (walk_z2 hq l1 hq2 l2)⟩
      · exact A.elim
    · exact A.elim
theorem di_zip3 (hg : Gl X "zip") (hm : X.mg "zip" = none) (ha : PA X [e, e2, e3] (LA (pk X G) PV W fl)) (hs : starEach [e, e2, e3] X.env = (false, eval e X.env) :: starEach [e2, e3] X.env := by rfl) (hpl : (backTo pos (starEach [e2, e3] X.env)).any (·.1) = false := by rfl) :
    PI X (.Tuple elts kk tpos) (.Call (.Name "zip" p) [e, e2, e3] [] pos) (LI (pk X G) PV W (M.bind fl wZip3)) :=
  PIi (pi_zip3 hg hm ha hs hpl) fun σ H R h => la_bind (rel := fun _ => jrel (pk X G) PV) (fun _ q => q) h fun z1 vs ds S l A => by
    unfold wZip3 at A
    split at A
    · rename_i da db dc
      obtain ⟨v, v', v'', rfl, r, r', r''⟩ := l.three
      split at A
      · rename_i xs ys zs hx hy hz
        obtain ⟨k1, a, us, rfl, l1, hq⟩ := seqD_rep (PV := PV) r hx
        obtain ⟨k2, b, ws, rfl, l2, hq2⟩ := seqD_rep (PV := PV) r' hy
        obtain ⟨k3, c, ts, rfl, l3, hq3⟩ := seqD_rep (PV := PV) r'' hz
        exact ⟨k1, k2, k3, a, b, c, us, ws, ts, rfl, hq _ _ S fun _ _ h => h, hq2 _ _ S fun _ _ h => h, hq3 _ _ S fun _ _ h => h, A _ z1.F z1.H z1.m EX.refl S (walk_z3 hq l1 hq2 l2 hq3 l3)⟩
      · exact A.elim
    · exact A.elim
end
/-! ### ''.join -/
def strD : D → Option Str
  | .str x => some x
  | _ => none
theorem RepL.strsOf {P : Par} {F : Hp} {m : List Addr} : ∀ {vs : List V} {ds : List D} {ns : List Str}, RepL P F m vs ds → mapO strD ds = some ns → vs = ns.map V.str
  | _, _, _, .nil, h => by cases h; rfl
  | _, _, _, .cons (d := d) (ds := ds) r l, h => by
    unfold mapO at h
    cases h1 : strD d with
    | none => rw [h1] at h; cases h
    | some i =>
      cases h2 : mapO strD ds with
      | none => rw [h1, h2] at h; cases h
      | some is =>
        rw [h1, h2] at h
        cases h
        rw [RepL.strsOf l h2]
        cases d with
        | str j => cases h1; cases r; rfl
        | _ => cases h1
end DL
set_option Elab.async false
set_option linter.all false
set_option maxRecDepth 100000
set_option maxHeartbeats 4000000
/-! DL28: a, b = x, y; dict comprehensions; names in short. -/
namespace DL
open PySem L2 PySem.Spec PyProof.Rows

theorem dv {X : Cx} {P : Par} {PV : List V} {W : WX} (i : Nat) {x : Str} {pos : Pos} (hN : X.N[i]? = some x := by rfl) (hv : Vis X.env.scope x := by first | exact Or.inl rfl | exact Or.inr (Or.inl rfl) | exact Or.inr (Or.inr rfl)) (hd : (x == ("__debug__" : Str)) = false := by decide) (hcd : (x == ("__classdict__" : Str)) = false := by decide) : PE X (.Name x pos) (LE P PV W (eVar i)) := de_var hN hv hd hcd
/-! ### several at once -/
theorem put_mu {P : Par} {PV : List V} {σ : L2.St} {z : Z} {H0 : Hp} {i : Nat} {v : V} {e : E} {ρ' : List Sl} {s' : List Cl} (S : SR P PV σ z) (r : ER P σ z H0 v e) (hp : put i e z.ρ z.s = .ok () ρ' s') {b : Addr} {o : HO} (ho : z.H b = some o)
    (h : Mu (σ.set i (some v)) { z with ρ := ρ' } b) : Mu σ z b ∨ ∃ c, e = .f c ∧ v = .ref b := by
  unfold put at hp
  cases hρ : z.ρ[i]? with
  | none => rw [hρ] at hp; cases hp
  | some y =>
    have hi : i < z.ρ.length := (List.getElem?_eq_some_iff.mp hρ).1
    have main : putV i e z.ρ z.s = .ok () ρ' s' → Mu σ z b ∨ ∃ c, e = .f c ∧ v = .ref b := fun hp => by
      cases e with
      | v d =>
        cases hp
        rcases (S.putV hi r).2.mu b h with q | q
        · exact .inl q
        · rw [ho] at q; cases q
      | l j => cases hp
      | f c =>
        cases hp
        obtain ⟨a, rfl, hf, nm, hn, hc⟩ := r
        rcases (S.putF hi hf nm hc).2 b h with rfl | q
        · exact .inr ⟨c, rfl, rfl⟩
        · exact .inl q
    rw [hρ] at hp
    cases y with
    | no => exact main hp
    | val d => exact main hp
    | own c => exact main hp
    | io c => cases hp
/-- what was got stays got behind a store of another -/
theorem put_keep {P : Par} {PV : List V} {σ : L2.St} {z : Z} {H0 : Hp} {i : Nat} {v w : V} {e e2 : E} {ρ' : List Sl} {s' : List Cl} (S : SR P PV σ z) (r : ER P σ z H0 v e) (hp : put i e z.ρ z.s = .ok () ρ' s') (r2 : ER P σ z H0 w e2) (hl : ∀ k, e2 ≠ .l k)
    (hne : ∀ c c', e = .f c → e2 = .f c' → w ≠ v) : ER P (σ.set i (some v)) { z with ρ := ρ' } H0 w e2 := by
  cases e2 with
  | v d => exact r2
  | l k => exact absurd rfl (hl k)
  | f c' =>
    obtain ⟨b, rfl, hf, nm, hn, hc⟩ := r2
    obtain ⟨o, ho⟩ := hc.there
    refine ⟨b, rfl, hf, fun q => ?_, hn, hc.rho⟩
    rcases put_mu S r hp ho q with q | ⟨c, e1, e2⟩
    · exact nm q
    · exact hne c c' e1 rfl e2.symm
def noL : E → Bool
  | .l _ => false
  | _ => true
theorem noL_ne {e : E} (h : noL e = true) : ∀ k, e ≠ .l k := fun k q => by subst q; cases h
def par2 (i j : Nat) : List E → M Fl
  | [a, b] => fun ρ s => if noL b = true then M.bind (put i a) (fun _ => M.bind (put j b) fun _ => sNx) ρ s else .no
  | _ => M.no
def par3 (i j l : Nat) : List E → M Fl
  | [a, b, c] => fun ρ s => if noL b = true ∧ noL c = true then M.bind (put i a) (fun _ => M.bind (put j b) fun _ => M.bind (put l c) fun _ => sNx) ρ s else .no
  | _ => M.no
theorem ERs.cons_inv {P : Par} {σ : L2.St} {z : Z} {H0 : Hp} {vs : List V} {e : E} {es : List E} (h : ERs P σ z H0 vs (e :: es)) : ∃ v ws, vs = v :: ws ∧ ER P σ z H0 v e ∧ FrNe v e ws es ∧ ERs P σ z H0 ws es := by
  cases h with
  | cons r n l => exact ⟨_, _, rfl, r, n, l⟩
/-- one of several stores -/
theorem putS_step {P : Par} {PV : List V} {W : WX} {σ0 σ1 : L2.St} {z0 z : Z} {D : Ends} {i : Nat} {v : V} {e : E} {k : M Fl} (S0 : SR P PV σ0 z0) (x : EX σ0 z0 σ1 z) (S : SR P PV σ1 z) (r : ER P σ1 z z0.H v e)
    (A : AccS P PV W σ0 z0 (M.bind (put i e) (fun _ => k) z.ρ z.s) D) : ∃ ρ', put i e z.ρ z.s = .ok () ρ' z.s ∧ SR P PV (σ1.set i (some v)) { z with ρ := ρ' } ∧ EX σ0 z0 (σ1.set i (some v)) { z with ρ := ρ' } ∧ AccS P PV W σ0 z0 (k ρ' z.s) D := by
  rw [bind_eq] at A
  cases hp : put i e z.ρ z.s with
  | no => rw [hp] at A; exact A.elim
  | ex c ns vs ρ s => exact (put_no hp).elim
  | ok u ρ s =>
    rw [hp] at A
    obtain ⟨rfl, h1, h2⟩ := put_ok S0 x S r hp
    exact ⟨ρ, rfl, h1, h2, A⟩
section
variable {X : Cx} {P : Par} {PV : List V} {W : WX} {fl : M (List E)} {a b c : Expr} {x y u : Str} {i j l : Nat} {px py pz pt pos : Pos} {kt k2 : Nat} {pt2 : Pos}
theorem ds_par2 (hc : X.calm = true) (hN : X.N.Nodup) (hi : X.N[i]? = some x) (hj : X.N[j]? = some y) (hij : i ≠ j) (hx : X.env.scope.names.lookup x = some .local) (hy : X.env.scope.names.lookup y = some .local) (ha : PA X [a, b] (LEs P PV W fl))
    (hw : swappedStores [.Tuple [.Name x px, .Name y py] kt pt] (.Tuple [a, b] k2 pt2) X.env = pure (some [x, y]))
    (hs : swapsWithSole [.Tuple [.Name x px, .Name y py] kt pt] (.Tuple [a, b] k2 pt2) pos.line X.env = pure false := by rfl) :
    PS X (.Assign [.Tuple [.Name x px, .Name y py] kt pt] (.Tuple [a, b] k2 pt2) pos) (LS P PV W (M.bind fl (par2 i j))) :=
  PSi (ps_par hc hN hi hj hij hx hy ha hw hs) fun D σ H h => lss_bind h fun z0 z1 vs es h0 S0 x0 S1 rl A => by
    unfold par2 at A
    split at A
    · rename_i e1 e2
      split at A
      · rename_i hl
        obtain ⟨v1, ws, rfl, r1, n1, l1⟩ := rl.cons_inv
        obtain ⟨v2, ws, rfl, r2, n2, l2⟩ := l1.cons_inv
        cases l2
        obtain ⟨ρ1, hp1, S2, x2, A2⟩ := putS_step S0 x0 S1 r1 A
        have r2' := put_keep S1 r1 hp1 r2 (noL_ne hl) fun c c' q1 q2 q3 => n1 c q1 0 c' (by rw [q2] <;> rfl) (by rw [q3] <;> rfl)
        obtain ⟨ρ2, hp2, S3, x3, A3⟩ := putS_step (z := { z1 with ρ := ρ1 }) S0 x2 S2 r2' A2
        exact ⟨v1, v2, rfl, A3 _ z1.F z1.H z1.m x3 S3⟩
      · exact A.elim
    · exact A.elim
theorem ds_par3 (hc : X.calm = true) (hN : X.N.Nodup) (hi : X.N[i]? = some x) (hj : X.N[j]? = some y) (hl : X.N[l]? = some u) (hij : i ≠ j) (hil : i ≠ l) (hjl : j ≠ l) (hx : X.env.scope.names.lookup x = some .local) (hy : X.env.scope.names.lookup y = some .local) (hz : X.env.scope.names.lookup u = some .local) (ha : PA X [a, b, c] (LEs P PV W fl))
    (hw : swappedStores [.Tuple [.Name x px, .Name y py, .Name u pz] kt pt] (.Tuple [a, b, c] k2 pt2) X.env = pure (some [x, y, u]))
    (hs : swapsWithSole [.Tuple [.Name x px, .Name y py, .Name u pz] kt pt] (.Tuple [a, b, c] k2 pt2) pos.line X.env = pure false := by rfl) :
    PS X (.Assign [.Tuple [.Name x px, .Name y py, .Name u pz] kt pt] (.Tuple [a, b, c] k2 pt2) pos) (LS P PV W (M.bind fl (par3 i j l))) :=
  PSi (ps_par3 hc hN hi hj hl hij hil hjl hx hy hz ha hw hs) fun D σ H h => lss_bind h fun z0 z1 vs es h0 S0 x0 S1 rl A => by
    unfold par3 at A
    split at A
    · rename_i e1 e2 e3
      split at A
      · rename_i hl
        obtain ⟨v1, ws, rfl, r1, n1, l1⟩ := rl.cons_inv
        obtain ⟨v2, ws, rfl, r2, n2, l2⟩ := l1.cons_inv
        obtain ⟨v3, ws, rfl, r3, n3, l3⟩ := l2.cons_inv
        cases l3
        obtain ⟨ρ1, hp1, S2, x2, A2⟩ := putS_step S0 x0 S1 r1 A
        have r2' := put_keep S1 r1 hp1 r2 (noL_ne hl.1) fun c c' q1 q2 q3 => n1 c q1 0 c' (by rw [q2] <;> rfl) (by rw [q3] <;> rfl)
        have r3' := put_keep S1 r1 hp1 r3 (noL_ne hl.2) fun c c' q1 q2 q3 => n1 c q1 1 c' (by rw [q2] <;> rfl) (by rw [q3] <;> rfl)
        obtain ⟨ρ2, hp2, S3, x3, A3⟩ := putS_step (z := { z1 with ρ := ρ1 }) S0 x2 S2 r2' A2
        have r3'' := put_keep (z := { z1 with ρ := ρ1 }) S2 r2' hp2 r3' (noL_ne hl.2) fun c c' q1 q2 q3 => n2 c q1 0 c' (by rw [q2] <;> rfl) (by rw [q3] <;> rfl)
        obtain ⟨ρ3, hp3, S4, x4, A4⟩ := putS_step (z := { z1 with ρ := ρ2 }) S0 x3 S3 r3'' A3
        exact ⟨v1, v2, v3, rfl, A4 _ z1.F z1.H z1.m x4 S4⟩
      · exact A.elim
    · exact A.elim
end

/-! ### dict comprehensions, keys ints and texts -/
def dcD (vs : List Nat) (g : E → M Unit) (t : M Bool) (k e : M D) : List D → List (Key × D) → M (List (Key × D))
  | [], acc => M.pure acc
  | d :: ds, acc => M.bind (g (.v d)) fun _ => M.bind t fun b => if b = true then M.bind k fun y => M.bind e fun u => M.bind (clrM vs) fun _ => (match keyD y with
      | some kk => if acc.length < sizeLine then dcD vs g t k e ds (putG acc kk u) else M.no
      | none => M.no)
    else M.bind (clrM vs) fun _ => dcD vs g t k e ds acc
theorem zip_split {α β : Type} : ∀ (l : List (α × β)), (l.map (·.1)).zip (l.map (·.2)) = l
  | [] => rfl
  | p :: ps => by simp only [List.map_cons, List.zip_cons_cons, zip_split ps]
def dkOf (acc : List (Key × D)) : Cl := .dk (acc.map (·.1)) (acc.map (·.2))
def eDc (vs : List Nat) (fi : M (List D)) (g : E → M Unit) (t : M Bool) (k e : M D) : M E := M.bind fi fun xs ρ s => lcR vs ρ dkOf (M.bind (clrM vs) (fun _ => dcD vs g t k e xs []) ρ s)
section
variable {X : Cx} {G : Str → Addr} {PV : List V} {W : WX} {kx elt tg iter : Expr} {ifs : List Expr} {scope : Scope} {own : List (Str × Nat)} {pos : Pos} {fi : M (List D)} {g : E → M Unit} {t : M Bool} {k e : M D}
theorem dc_imp {P : Par} {vs : List Nat} : ∀ σ H Q, LE P PV W (eDc vs fi g t k e) σ H Q → tDc (LI P PV W fi) (LGw P PV W0 vs g) (LT P PV W0 t) (LD P PV W0 k) (LD P PV W0 e) vs σ H Q :=
  fun σ H Q h => lie_bind h fun z1 J xs S1 w A => fun D hD => by
    refine ⟨fun i m H => i ≤ xs.length ∧ m = xs.length - i ∧ ∃ (z : Z) (acc : List (Key × DL.D)), z.H = H ∧ Blk P PV σ vs z1 D (dkOf acc) z ∧ Acc P PV W σ z1 (erel P σ z1.H) (lcR vs z1.ρ dkOf (dcD vs g t k e (xs.drop i) acc z.ρ z.s)) Q,
      ⟨xs.length, Nat.zero_le _, rfl, _, [], rfl, Blk.start S1 hD ⟨[], rfl, upd_same, .nil⟩, A⟩, ?_⟩
    rintro i m H ⟨hi, rfl, z, acc, rfl, B, A⟩
    obtain ⟨w1, w2⟩ := w i _ z B.sr B.ex.fs B.ex.mp
    by_cases hl : i < xs.length
    · refine .inr ⟨(w1 hl).1, fun H' => ∃ (z : Z) (acc : List (Key × DL.D)), z.H = H' ∧ Blk P PV σ vs z1 D (dkOf acc) z ∧ Acc P PV W σ z1 (erel P σ z1.H) (lcR vs z1.ρ dkOf (dcD vs g t k e (xs.drop (i + 1)) acc z.ρ z.s)) Q, fun H' h => ⟨xs.length - (i + 1), by omega, by omega, rfl, h⟩, fun x H' hy => ?_⟩
      obtain ⟨F', x1, S', d, hd, r⟩ := (w1 hl).2 x H' hy
      have hdr : xs.drop i = d :: xs.drop (i + 1) := by
        rw [List.drop_eq_getElem_cons hl]
        have : xs[i] = d := by rw [List.getElem?_eq_getElem hl] at hd; exact Option.some.inj hd
        rw [this]
      rw [hdr] at A
      refine ⟨_, ⟨F', H', z.m, z.ρ, z.s⟩, ⟨F', H', z.m, z.ρ, z.s⟩, .v d, rfl, S', EX.refl, S', r, subU_ok (z := ⟨F', H', z.m, z.ρ, z.s⟩) A fun σ2 F2 H2 m2 ρ2 s2 x2 S2 A2 hw => ⟨hw.trans wipe_wipe, ⟨F2, H2, m2, ρ2, s2⟩, rfl, S2, sub_ok (z := ⟨F2, H2, m2, ρ2, s2⟩) A2 fun b F3 H3 m3 b' ρ3 s3 x3 S3 rb A3 => ?_⟩⟩
      have rb : b = b' := rb
      have hw := hw.trans wipe_wipe
      subst rb
      have x13 := (x1.trans B.sr x2).trans B.sr x3
      cases b with
      | false =>
        rw [if_neg Bool.false_ne_true]
        rw [if_neg Bool.false_ne_true] at A3
        have B3 := (B.step S1 x13 S3 hw).1
        exact ⟨_, acc, rfl, B3, A3⟩
      | true =>
        rw [if_pos rfl]
        rw [if_pos rfl] at A3
        refine ⟨⟨F3, H3, m3, ρ3, s3⟩, rfl, S3, sub_ok (z := ⟨F3, H3, m3, ρ3, s3⟩) A3 fun y F4 H4 m4 dy ρ4 s4 x4 S4 ry A4 => ?_⟩
        refine ⟨⟨F4, H4, m4, ρ4, s4⟩, rfl, S4, sub_ok (z := ⟨F4, H4, m4, ρ4, s4⟩) A4 fun u F5 H5 m5 du ρ5 s5 x5 S5 ru A5 => ?_⟩
        obtain ⟨B5, hf5, hm5, hc5⟩ := B.step S1 ((x13.trans B.sr x4).trans B.sr x5) S5 hw
        obtain ⟨us, hlu, hD5, l5⟩ := hc5
        have ry := x5.rep ry
        have A6 : Acc P PV W σ z1 (erel P σ z1.H) (lcR vs z1.ρ dkOf ((match keyD dy with
          | some kk => if acc.length < sizeLine then dcD vs g t k e (xs.drop (i + 1)) (putG acc kk du) else M.no
          | none => M.no) (clr vs ρ5) s5)) Q := A5
        cases hk : keyD dy with
        | none => rw [hk] at A6; exact A6.elim
        | some kk =>
          rw [hk] at A6
          have A7 : Acc P PV W σ z1 (erel P σ z1.H) (lcR vs z1.ρ dkOf ((if acc.length < sizeLine then dcD vs g t k e (xs.drop (i + 1)) (putG acc kk du) else M.no) (clr vs ρ5) s5)) Q := A6
          by_cases hz : acc.length < sizeLine
          · rw [if_pos hz] at A7
            have ey := keyD_ok ry hk
            have kr := KRel.zip (ks := acc.map (·.1)) l5
            rw [zip_split] at kr
            have kp := kr.put (k := kk) ru
            obtain ⟨e1, e2, e3⟩ := kp.split
            refine ⟨_, kk, ey, hD5, by rw [kr.length]; exact hz, _, putG acc kk du, rfl, B5.write hD ⟨_, e2, ?_, e3⟩, A7⟩
            show upd _ D _ D = _
            rw [← e1]; exact upd_same
          · rw [if_neg hz] at A7; exact A7.elim
    · have hl : xs.length ≤ i := Nat.le_of_not_lt hl
      refine .inl ⟨w2 (Nat.le_antisymm hi hl), ?_⟩
      rw [List.drop_eq_nil_of_le hl] at A
      exact B.done S1 hD A
theorem de_dc (hc : X.calm = true) (hN : X.N.Nodup) (hi : PI X tg iter (LI (pk X G) PV W fi)) (ok : BlkOk X.N X.env.scope scope own)
    (hg : ∀ (s : Shared) (H : Hp) (C : Addr) (cl : List (Str × Addr)) (fp : List Addr), PG (X.blk s H scope (compEnvC scope cl C X.env) fp) tg (LGw (pk X G) PV W0 (own.map (·.2)) g)) (ht : ∀ (s : Shared) (H : Hp) (C : Addr) (cl : List (Str × Addr)) (fp : List Addr), PTs (X.blk s H scope (compEnvC scope cl C X.env) fp) ifs (LT (pk X G) PV W0 t))
    (hk : ∀ (s : Shared) (H : Hp) (C : Addr) (cl : List (Str × Addr)) (fp : List Addr), PE (X.blk s H scope (compEnvC scope cl C X.env) fp) kx (LD (pk X G) PV W0 k))
    (he : ∀ (s : Shared) (H : Hp) (C : Addr) (cl : List (Str × Addr)) (fp : List Addr), PE (X.blk s H scope (compEnvC scope cl C X.env) fp) elt (LD (pk X G) PV W0 e)) (hs : ∀ x, foldedSetIterable iter X.env x = pure x := by intro _; rfl) :
    PE X (.DictComp kx elt [⟨tg, iter, ifs, 0⟩] scope pos) (LE (pk X G) PV W (eDc (own.map (·.2)) fi g t k e)) := PEi (pe_dc hc hN hi ok hg ht hk he hs) dc_imp
end
end DL
set_option Elab.async false
set_option linter.all false
set_option maxRecDepth 100000
set_option maxHeartbeats 4000000
/-! DL29: a def by its name. -/
namespace DL
open PySem L2 PySem.Spec PyProof.Rows

/-- fd is the def at f -/
def FdAt (K : PySem.W.Frag) (f : Addr) (fd : FuncData) : Prop := ∃ o, K.lookup f = some o ∧ o.data = .func fd
/-- the def called x, of level k, means d -/
structure Cal (P : Program) (w : World) (K : PySem.W.Frag) (mg : Str → Option Value) (base : Heap) (G : Str → Addr) (k : Nat) (x : Str) (ps : List Str) (d : M E) : Prop where
  ex : ∃ f fd, Fn P w K mg base k f fd ps (spD ⟨K, G⟩ ps.length d) ∧ mg x = some (.ref f) ∧ PySem.W.keepIn K (.ref f) = true ∧ Binds K fd ps [] ∧ FdAt K f fd
section
variable {X : Cx} {G : Str → Addr} {PV : List V} {W : WX} {k j n : Nat} {ps : List Str} {F : M E} {x : Str} {p pos : Pos} {e : Expr} {es : List Expr} {fl : M (List E)}
theorem de_cal (C : Cal X.prog X.w X.K X.mg X.base G j x ps F) (hgd : X.A.guards = some []) (hr : Room k X.A) (hj : j ≤ k) (tk : Takes X W) (ha : PA X (e :: es) (LEs (pk X G) PV W fl)) (hn : ps.length = n := by rfl) (hg : Gl X x := by rfl)
    (hdb : (x == ("__debug__" : Str)) = false := by decide) (he : starEach (e :: es) X.env = (false, eval e X.env) :: starEach es X.env := by rfl) (hpl : (backTo pos (starEach es X.env)).any (·.1) = false := by rfl) :
    PE X (.Call (.Name x p) (e :: es) [] pos) (LE (pk X G) PV W (M.bind fl (gCall n F))) := by
  subst hn
  obtain ⟨f, fd, Ff, hm, hk, hb, _⟩ := C.ex
  exact de_call Ff hgd (hr.mono hj) tk hg hm hk hb ha hdb he hpl
theorem de_cal0 (C : Cal X.prog X.w X.K X.mg X.base G j x ps F) (hgd : X.A.guards = some []) (hr : Room k X.A) (hj : j ≤ k) (tk : Takes X W) (hn : ps.length = n := by rfl) (hg : Gl X x := by rfl) (hdb : (x == ("__debug__" : Str)) = false := by decide) :
    PE X (.Call (.Name x p) [] [] pos) (LE (pk X G) PV W (M.bind esNil (gCall n F))) := by
  subst hn
  obtain ⟨f, fd, Ff, hm, hk, hb, _⟩ := C.ex
  exact de_call0 Ff hgd (hr.mono hj) tk hg hm hk hb hdb
end
section
variable {P : Program} {w : World} {K : PySem.W.Frag} {mg : Str → Option Value} {base : Heap} {G : Str → Addr} {k : Nat} {x : Str} {st : Stmt} {f : Addr} {fd : FuncData} {N ps : List Str} {b : M Fl}
/-- a def of the text, by its body -/
theorem Cal.of (F : L2.Fun K x x st f fd) (hm : mg x = some (.ref f)) (hb : Binds K fd ps []) (S : FnScope N ps (defScope st))
    (hbody : ∀ (cdv : Value) (A : Around) (outer : List Env) (s : Shared) (H : Hp) (vs : List V) (Ex : XK), A.guards = some [] → Room k (A.deeper (envOfC x (defScope st) s.heap.objs.size f cdv)) →
      PSs (cxOf (L2.CX P w) P w K mg base N x (defScope st) f cdv A outer s H Ex) (defBody st) (LS ⟨K, G⟩ vs (fun c d _ H => Ex c d H) b)) : Cal P w K mg base G (k + 1) x ps (fnE N.length b) := by
  obtain ⟨oc, od, kV, doc, pm, an, cdv, ct, osl, rfl, lk, hcd⟩ := F.ex
  exact ⟨f, _, fn_of lk hcd S fun A outer s H vs Ex hg hr => hbody cdv A outer s H vs Ex hg hr, hm, F.kp, hb, _, lk, rfl⟩
/-- a def that calls itself, at no fuel -/
theorem Cal.zero (F : L2.Fun K x x st f fd) (hm : mg x = some (.ref f)) (hb : Binds K fd ps []) : Cal P w K mg base G k x ps M.no := by
  have hfd : FdAt K f fd := by
    obtain ⟨oc, od, kV, doc, pm, an, cdv, ct, osl, rfl, lk, hcd⟩ := F.ex
    exact ⟨_, lk, rfl⟩
  exact ⟨f, fd, ⟨fun vs H Q Ex h => h.1, fun A outer s H args us vs Q Ex hg hr e0 hbt hv hs => by
    obtain ⟨_, z, _, _, _, _, A⟩ := hs
    exact A.elim⟩, hm, F.kp, hb, hfd⟩
theorem Cal.mono {j : Nat} {d : M E} (C : Cal P w K mg base G j x ps d) (h : j ≤ k) : Cal P w K mg base G k x ps d := by
  obtain ⟨f, fd, F, h1, h2, h3, h4⟩ := C.ex
  exact ⟨f, fd, F.mono h, h1, h2, h3, h4⟩
end
end DL
set_option Elab.async false
set_option linter.all false
set_option maxRecDepth 100000
set_option maxHeartbeats 4000000
/-! DL30: words for printed texts. -/
namespace DL
open PySem L2 PySem.Spec PyProof.Rows

theorem hu1 {k : Nat} {A : Around} (hr : Room k A) : A.units + 1 < cLine := by have := hr.un; omega
theorem hu65 {k : Nat} {A : Around} (hr : Room k A) : A.units + 65 < cLine := by have := hr.un; omega
theorem tk0 {X : Cx} : Takes X W0 := fun _ _ x => by
  obtain ⟨_, _, _, _, _, _, _, _, _, _, _, _, _, _, _, _, h⟩ := x
  exact h.elim
theorem ds_no {X : Cx} {P : Par} {PV : List V} {W : WX} {st : Stmt} : PS X st (LS P PV W M.no) := PSi ps_never fun D σ H ⟨z, e, S, A⟩ => A
section
variable {P : Par} {PV : List V} {W : WX}
theorem od_lt : OpD P PV W cLt (rI0 fun i j => .bl (decide (i < j))) := opd_cmp fun i j H Q q => ⟨i, j, rfl, rfl, q⟩
theorem od_le : OpD P PV W cLe (rI0 fun i j => .bl (decide (i ≤ j))) := opd_cmp fun i j H Q q => ⟨i, j, rfl, rfl, q⟩
theorem od_gt : OpD P PV W cGt (rI0 fun i j => .bl (decide (j < i))) := opd_cmp fun i j H Q q => ⟨i, j, rfl, rfl, q⟩
theorem od_ge : OpD P PV W cGe (rI0 fun i j => .bl (decide (j ≤ i))) := opd_cmp fun i j H Q q => ⟨i, j, rfl, rfl, q⟩
end
/-- a module's constant -/
theorem pe_gl {X : Cx} {x : Str} {v : V} {pos : Pos} (hg : Gl X x) (hm : ∃ u, X.mg x = some u ∧ RelV v u) (hd : (x == ("__debug__" : Str)) = false := by decide) : PE X (.Name x pos) (tC v) := by
  obtain ⟨u, h, r⟩ := hm
  exact pe_glob hg h r hd
/-- a module's tuple -/
def KtAt (K : PySem.W.Frag) (mg : Str → Option Value) (x : Str) (d : D) : Prop := ∃ a, mg x = some (.ref a) ∧ ∀ F m G, Rep ⟨K, G⟩ F m (.ref a) d
theorem de_kt {X : Cx} {G : Str → Addr} {PV : List V} {W : WX} {x : Str} {pos : Pos} {d : D} (hg : Gl X x) (h : KtAt X.K X.mg x d) (hd : (x == ("__debug__" : Str)) = false := by decide) : PE X (.Name x pos) (LE (pk X G) PV W (eC d)) := by
  obtain ⟨a, hm, hr⟩ := h
  exact de_tC (pe_glob hg hm (v := .ref a) rfl hd) fun F m => hr F m G
/-! a, b, .. = x, y, .. by way of a tuple -/
def putAll : List Nat → List E → M Unit
  | [], [] => M.pure ()
  | i :: is, e :: es => M.bind (put i e) fun _ => putAll is es
  | _, _ => M.no
def parN (is : List Nat) (es : List E) : M Fl := fun ρ s => if es.all noL = true ∧ es.length ≤ sizeLine ∧ es.length = is.length then M.bind (putAll is es) (fun _ => sNx) ρ s else .no
def tNames : List Nat → TGs
  | [] => gNil
  | i :: is => gCons (gName i) (tNames is)
theorem ERs.put {P : Par} {PV : List V} {σ : L2.St} {z : Z} {H0 : Hp} {i : Nat} {v : V} {e : E} {ρ' : List Sl} {s' : List Cl} (S : SR P PV σ z) (r : ER P σ z H0 v e) (hp : put i e z.ρ z.s = .ok () ρ' s') : ∀ {vs : List V} {es : List E}, ERs P σ z H0 vs es → es.all noL = true → FrNe v e vs es → ERs P (σ.set i (some v)) { z with ρ := ρ' } H0 vs es
  | _, _, .nil, _, _ => .nil
  | w :: vs, e2 :: es, .cons r2 n l, ha, hn => by
    rw [List.all_cons, Bool.and_eq_true] at ha
    refine .cons (put_keep S r hp r2 (noL_ne ha.1) fun c c' q1 q2 q3 => hn c q1 0 c' (by rw [q2] <;> rfl) (by rw [q3] <;> rfl)) n (ERs.put S r hp l ha.2 fun c hc j c' hj => ?_)
    have := hn c hc (j + 1) c' (by simpa using hj)
    simpa using this
theorem names_imp {P : Par} {PV : List V} {W : WX} {σ0 : L2.St} {z0 : Z} {Q : L2.St → Hp → Prop} (S0 : SR P PV σ0 z0) : ∀ {is : List Nat} {es : List E} {vs : List V} {σ : L2.St} {z : Z}, EX σ0 z0 σ z → SR P PV σ z → ERs P σ z z0.H vs es → es.all noL = true → AccU P PV W σ0 z0 (putAll is es z.ρ z.s) Q → tNames is vs σ z.H Q
  | [], [], vs, σ, z, x, S, l, _, A => by
    cases l
    exact ⟨rfl, A σ z.F z.H z.m x S⟩
  | [], _ :: _, _, _, _, _, _, _, _, A => A.elim
  | _ :: _, [], _, _, _, _, _, _, _, A => A.elim
  | i :: is, e :: es, vs, σ, z, x, S, l, ha, A => by
    obtain ⟨v, ws, rfl, r, n, l⟩ := l.cons_inv
    rw [List.all_cons, Bool.and_eq_true] at ha
    have A1 : AccU P PV W σ0 z0 (M.bind (put i e) (fun _ => putAll is es) z.ρ z.s) Q := A
    rw [bind_eq] at A1
    cases hp : put i e z.ρ z.s with
    | no => rw [hp] at A1; exact A1.elim
    | ex c ns vs ρ s => exact (put_no hp).elim
    | ok u ρ s =>
      rw [hp] at A1
      obtain ⟨rfl, h1, h2⟩ := put_ok S0 x S r hp
      exact ⟨v, ws, rfl, names_imp S0 (z := { z with ρ := ρ }) h2 h1 (l.put S r hp ha.2 n) ha.2 A1⟩
section
variable {X : Cx} {G : Str → Addr} {PV : List V} {W : WX} {ts es : List Expr} {fl : M (List E)} {is : List Nat} {k k2 n : Nat} {p1 p2 pos : Pos}
theorem ds_parN (hc : X.calm = true) (ht : PGs X ts (tNames is)) (ha : PA X es (LEs (pk X G) PV W fl)) (hn : (assignEach ts X.env).length = n := by rfl) (hn2 : is.length = n := by rfl) (hst : (assignEach ts X.env).findIdx? (·.1) = none := by rfl)
    (hs : swapsWithSole [.Tuple ts k p1] (.Tuple es k2 p2) pos.line X.env = pure false := by rfl) (hw : swappedStores [.Tuple ts k p1] (.Tuple es k2 p2) X.env = pure none := by rfl) (h1 : (assignEach [.Tuple ts k p1] X.env).map (·.2) = [assign (.Tuple ts k p1) X.env] := by rfl) :
    PS X (.Assign [.Tuple ts k p1] (.Tuple es k2 p2) pos) (LS (pk X G) PV W (M.bind fl (parN is))) :=
  PSi (ps_asg (pe_tup ha) (pg_tup hc ht hn hst) hs hw h1) fun D σ H h => lss_bind h fun z0 z1 vs es h0 S0 x0 S1 l A => by
    have A1 : AccS (pk X G) PV W σ z0 (if es.all noL = true ∧ es.length ≤ sizeLine ∧ es.length = is.length then M.bind (putAll is es) (fun _ => sNx) z1.ρ z1.s else .no) D := A
    by_cases hh : es.all noL = true ∧ es.length ≤ sizeLine ∧ es.length = is.length
    · rw [if_pos hh] at A1
      have hl := l.length
      refine ⟨by rw [hl]; exact hh.2.1, fun p hp => ?_⟩
      have kk := upd_keep (o := HO.tup vs) hp
      have S2 := S1.grow kk
      have x2 := EX.grow (σ := σ) kk
      have l2 : ∀ {vs' : List V} {es' : List E}, ERs (pk X G) σ z1 z0.H vs' es' → ERs (pk X G) σ { z1 with H := upd z1.H p (.tup vs) } z0.H vs' es' := by
        intro vs' es' l
        induction l with
        | nil => exact .nil
        | cons r n _ ih => exact .cons (r.up S1 x2) n ih
      exact ⟨p, vs, rfl, SqT.of upd_same, by rw [hl, hh.2.2, hn2], names_imp S0 (z := { z1 with H := upd z1.H p (.tup vs) }) (x0.trans S0 x2) S2 (l2 l) hh.1 (accU_of A1)⟩
    · rw [if_neg hh] at A1; exact A1.elim
end
/-! join -/
def jnD : D → Option (List D)
  | .lst xs => some xs
  | .tup xs => some xs
  | _ => none
def oJoin (o : E) (ds : List D) : M E := fun ρ s => match o, ds with
  | .v (.str a), [d] => match (jnD d).bind (mapO strD) with
    | some ys => if (ys.map (·.length)).sum + ys.length * a.length ≤ 16777216 then .ok (.v (.str (Txt.join a ys))) ρ s else .no
    | none => .no
  | _, _ => .no
theorem jnD_ok {P : Par} {PV : List V} {σ : L2.St} {z : Z} {v : V} {d : D} {xs : List D} (S : SR P PV σ z) (r : Rep P z.F z.m v d) (h : jnD d = some xs) : ∃ b us, v = .ref b ∧ (SqL P.K z.H b us ∨ SqT P.K z.H b us) ∧ RepL P z.F z.m us xs := by
  cases d with
  | lst ys =>
    cases h
    obtain ⟨b, rfl, us, h1, l⟩ := con_ok (e := .v (.lst xs)) (c := .lst xs) (H0 := z.H) S r rfl
    exact ⟨b, us, rfl, .inl (SqL.of h1), l⟩
  | tup ys =>
    cases h
    have r' : ER P σ z z.H v (.v (.tup xs)) := r
    obtain ⟨b, us, rfl, h1, l, _⟩ := r'.tup S
    exact ⟨b, us, rfl, .inr h1, l⟩
  | _ => cases h
theorem md_join {P : Par} {PV : List V} {W : WX} {K : PySem.W.Frag} (hK : P.K = K := by rfl) : MtD P PV W oJoin (fun x xs H Q => ∃ a p, ∃ ys : List Str, x = .str a ∧ xs = [.ref p] ∧ (SqL K H p (ys.map V.str) ∨ SqT K H p (ys.map V.str)) ∧ (ys.map (·.length)).sum + ys.length * a.length ≤ 16777216 ∧ Q (.str (Txt.join a ys)) H) := by
  subst hK
  intro σ z H0 x o vs ds Q S ro rl A
  unfold oJoin at A
  split at A
  · rename_i a d
    split at A
    · rename_i ys hy
      obtain ⟨xs, hj, hy⟩ := Option.bind_eq_some_iff.mp hy
      split at A
      · rename_i hz
        obtain ⟨v, rfl, rv⟩ := rl.one
        cases ro.str
        obtain ⟨b, us, rfl, h1, l⟩ := jnD_ok S rv hj
        have e := l.strsOf hy
        subst e
        exact ⟨a, b, ys, rfl, rfl, h1, hz, acc_val S (.str _) A⟩
      · exact A.elim
    · exact A.elim
  · exact A.elim
/-! isinstance's tables -/
def tyName : Ty → Option String
  | .non => some "NoneType"
  | .bl => some "bool"
  | .int => some "int"
  | .str => some "str"
  | .lst => some "list"
  | .tup => some "tuple"
  | .dct => some "dict"
  | .own _ => none
/-- of one builtin type -/
def kitT (T : String) (cs : List Str) (t : Ty) : Option Bool := match t with
  | .own c => if cs.contains c = true then some false else none
  | t => (tyName t).bind fun n => kitB n T
/-- of one of several -/
def kitTs (Ts : List String) (cs : List Str) (t : Ty) : Option Bool := match t with
  | .own c => if cs.contains c = true then some false else none
  | t => (tyName t).bind fun n => Ts.foldr (fun T r => match kitB n T with | some true => some true | some false => r | none => none) (some false)
/-- of one own class -/
def kitO (cs : List Str) (c0 : Str) (t : Ty) : Option Bool := match t with
  | .own c => if cs.contains c = true then some (c == c0) else none
  | _ => some false
/-- own classes: what isinstance asks -/
structure OwnCls (K : PySem.W.Frag) (G : Str → Addr) (cs : List Str) (Ts : List String) : Prop where
  ins : ∀ c ∈ cs, C8.InsC K (G c)
  ty : ∀ c ∈ cs, ∀ T ∈ Ts, PySem.W.kitOne K (.ref (G c)) (.type T) = some false
  own : ∀ c ∈ cs, ∀ c' ∈ cs, PySem.W.kitOne K (.ref (G c)) (.ref (G c')) = some (c == c')
  blt : ∀ n ∈ ["NoneType", "bool", "int", "str", "list", "tuple", "dict"], ∀ c ∈ cs, PySem.W.kitOne K (.type n) (.ref (G c)) = some false
theorem kitAny_one {K : PySem.W.Frag} {t : Value} : PySem.W.kitAny K t [] = some false := rfl
section
variable {K : PySem.W.Frag} {G : Str → Addr} {cs : List Str} {Ts : List String}
theorem kit_T (h : OwnCls K G cs Ts) {T : String} (hT : T ∈ Ts) : KitOk K G (kitT T cs) (.type T) where
  one := fun t b e => by
    cases t with
    | own c =>
      have e : (if cs.contains c = true then some false else none) = some b := e
      by_cases hc : cs.contains c = true
      · rw [if_pos hc] at e; cases e
        exact h.ty c (by simpa using hc) T hT
      · rw [if_neg hc] at e; cases e
    | _ => exact kit_ty e
  own := fun c b e => by
    have e : (if cs.contains c = true then some false else none) = some b := e
    by_cases hc : cs.contains c = true
    · exact h.ins c (by simpa using hc)
    · rw [if_neg hc] at e; cases e
theorem kit_O (h : OwnCls K G cs Ts) {c0 : Str} (h0 : c0 ∈ cs) : KitOk K G (kitO cs c0) (.ref (G c0)) where
  one := fun t b e => by
    cases t with
    | own c =>
      have e : (if cs.contains c = true then some (c == c0) else none) = some b := e
      by_cases hc : cs.contains c = true
      · rw [if_pos hc] at e; cases e
        exact h.own c (by simpa using hc) c0 h0
      · rw [if_neg hc] at e; cases e
    | non => cases e; exact h.blt "NoneType" (by decide) c0 h0
    | bl => cases e; exact h.blt "bool" (by decide) c0 h0
    | int => cases e; exact h.blt "int" (by decide) c0 h0
    | str => cases e; exact h.blt "str" (by decide) c0 h0
    | lst => cases e; exact h.blt "list" (by decide) c0 h0
    | tup => cases e; exact h.blt "tuple" (by decide) c0 h0
    | dct => cases e; exact h.blt "dict" (by decide) c0 h0
  own := fun c b e => by
    have e : (if cs.contains c = true then some (c == c0) else none) = some b := e
    by_cases hc : cs.contains c = true
    · exact h.ins c (by simpa using hc)
    · rw [if_neg hc] at e; cases e
theorem any_T {n : String} : ∀ {Ls : List String} {b : Bool}, Ls.foldr (fun T r => match kitB n T with | some true => some true | some false => r | none => none) (some false) = some b → PySem.W.kitAny K (.type n) (Ls.map Value.type) = some b
  | [], b, h => by cases h; rfl
  | T :: Ls, b, h => by
    rw [List.foldr_cons] at h
    rw [List.map_cons]
    cases e : kitB n T with
    | none => rw [e] at h; cases h
    | some k =>
      rw [e] at h
      cases k with
      | true => cases h; exact kitAny_cons (kit_ty e) (fun q => by cases q) fun _ => rfl
      | false => exact kitAny_cons (kit_ty e) (fun _ => any_T h) fun q => by cases q
theorem own_T {c : Addr} : ∀ {Ls : List String}, (∀ T ∈ Ls, PySem.W.kitOne K (.ref c) (.type T) = some false) → PySem.W.kitAny K (.ref c) (Ls.map Value.type) = some false
  | [], _ => rfl
  | T :: Ls, h => by
    rw [List.map_cons]
    exact kitAny_cons (h T List.mem_cons_self) (fun _ => own_T fun U hU => h U (List.mem_cons_of_mem _ hU)) fun q => by cases q
theorem kit_Ts (h : OwnCls K G cs Ts) {Ls : List String} (hT : ∀ T ∈ Ls, T ∈ Ts) : KitsOk K G (kitTs Ls cs) (Ls.map Value.type) where
  one := fun t b e => by
    cases t with
    | own c =>
      have e : (if cs.contains c = true then some false else none) = some b := e
      by_cases hc : cs.contains c = true
      · rw [if_pos hc] at e; cases e
        exact own_T fun T hT' => h.ty c (by simpa using hc) T (hT T hT')
      · rw [if_neg hc] at e; cases e
    | _ => exact any_T e
  own := fun c b e => by
    have e : (if cs.contains c = true then some false else none) = some b := e
    by_cases hc : cs.contains c = true
    · exact h.ins c (by simpa using hc)
    · rw [if_neg hc] at e; cases e
end
theorem pc_tys : ∀ (Ls : List String), Paired ClsV (Ls.map V.ty) (Ls.map Value.type)
  | [] => .nil
  | T :: Ls => .cons (.ty T) (pc_tys Ls)
section
variable {X : Cx} {a b : Str} {A B : String} {pa pb : Pos}
theorem PAt {es : List Expr} {t t' : TA} (h : PA X es t) (k : ∀ σ H Q, t' σ H Q → t σ H Q) : PA X es t' := PAi h k
theorem pa_tys2 (ha : X.mg a = none) (hb : X.mg b = none) (ga : Gl X a := by rfl) (gb : Gl X b := by rfl) (va : bootBuiltins a = some (.type A) := by decide +kernel) (vb : bootBuiltins b = some (.type B) := by decide +kernel) (na : a ≠ "__name__" := by decide) (nb : b ≠ "__name__" := by decide) (da : (a == ("__debug__" : Str)) = false := by decide) (db : (b == ("__debug__" : Str)) = false := by decide)
    (hs : starEach [.Name a pa, .Name b pb] X.env = (false, eval (.Name a pa) X.env) :: starEach [.Name b pb] X.env := by rfl) (hs2 : starEach [.Name b pb] X.env = (false, eval (.Name b pb) X.env) :: starEach [] X.env := by rfl) :
    PA X [.Name a pa, .Name b pb] (fun _ H Q => Q [V.ty A, V.ty B] H) :=
  PAi (pa_cons (pe_bltn (v := .ty A) ga ha va rfl na da) (pa_cons (pe_bltn (v := .ty B) gb hb vb rfl nb db) pa_nil hs2) hs) fun σ H Q h => h
/-- an own class by its name -/
theorem de_cls {x : Str} {C : Addr} {p : Pos} (hm : X.mg x = some (.ref C)) (hg : Gl X x := by rfl) (hd : (x == ("__debug__" : Str)) = false := by decide) : PE X (.Name x p) (tC (.ref C)) := pe_glob hg hm rfl hd
end
end DL
set_option Elab.async false
set_option linter.all false
set_option maxRecDepth 100000
set_option maxHeartbeats 4000000
/-! DL31: methods and makers by their names; calls with keywords. -/
namespace DL
open PySem L2 PySem.Spec PyProof.Rows

/-- the method m of the class c means d -/
structure CalM (P : Program) (w : World) (K : PySem.W.Frag) (mg : Str → Option Value) (base : Heap) (G : Str → Addr) (k : Nat) (c m : Str) (ps : List Str) (d : M E) : Prop where
  ex : ∃ f fd, Fn P w K mg base k f fd ps (spD ⟨K, G⟩ ps.length d) ∧ Meth K (G c) m f ∧ Cls K (G c) ∧ Binds K fd ps [] ∧ FdAt K f fd
/-- C(..) is made by __init__, which means d -/
structure CalI (P : Program) (w : World) (K : PySem.W.Frag) (mg : Str → Option Value) (base : Heap) (G : Str → Addr) (k : Nat) (c : Str) (ps : List Str) (d : M E) : Prop where
  ex : ∃ f fd, Fn P w K mg base k f fd ps (spD ⟨K, G⟩ ps.length d) ∧ Mk K (G c) f ∧ mg c = some (.ref (G c)) ∧ Binds K fd ps [] ∧ FdAt K f fd
section
variable {X : Cx} {G : Str → Addr} {PV : List V} {W : WX} {k j n : Nat} {ps : List Str} {F : M E} {c m : Str} {p pos apos : Pos} {o e : Expr} {es : List Expr} {fo : M E} {fl : M (List E)}
theorem de_calM {pl : Sem Bool} (C : CalM X.prog X.w X.K X.mg X.base G j c m ps F) (hgd : X.A.guards = some []) (hr : Room k X.A) (hj : j ≤ k) (tk : Takes X W) (ho : PE X o (LE (pk X G) PV W fo)) (ha : PA X (e :: es) (LEs (pk X G) PV W fl)) (hn : ps.length = n := by rfl)
    (hst : starEach (e :: es) X.env = (false, eval e X.env) :: starEach es X.env := by rfl) (hpl : (backTo pos (starEach es X.env)).any (·.1) = false := by rfl)
    (ht : eval (.Call (.Attribute o m apos) (e :: es) [] pos) X.env = (do
      let ov ← eval o X.env
      standAt apos.atName
      let (f, first) ← holding [ov] (getMethod ov m pl)
      callWith pos f first (backTo pos (starEach (e :: es) X.env)) (backToKw pos (keywordEach [] X.env))) := by rfl) :
    PE X (.Call (.Attribute o m apos) (e :: es) [] pos) (LE (pk X G) PV W (M.bind fo (gMeth n c m F fl))) := by
  subst hn
  obtain ⟨f, fd, Ff, hm, hc, hb, _⟩ := C.ex
  exact de_meth rfl ho hc hm Ff hgd (hr.mono hj) tk hb ha hst hpl ht
theorem de_calM0 {pl : Sem Bool} (C : CalM X.prog X.w X.K X.mg X.base G j c m ps F) (hgd : X.A.guards = some []) (hr : Room k X.A) (hj : j ≤ k) (tk : Takes X W) (ho : PE X o (LE (pk X G) PV W fo)) (hn : ps.length = n := by rfl)
    (ht : eval (.Call (.Attribute o m apos) [] [] pos) X.env = (do
      let ov ← eval o X.env
      standAt apos.atName
      let (f, first) ← holding [ov] (getMethod ov m pl)
      callWith pos f first (backTo pos (starEach [] X.env)) (backToKw pos (keywordEach [] X.env))) := by rfl) :
    PE X (.Call (.Attribute o m apos) [] [] pos) (LE (pk X G) PV W (M.bind fo (gMeth n c m F esNil))) := by
  subst hn
  obtain ⟨f, fd, Ff, hm, hc, hb, _⟩ := C.ex
  exact de_meth0 rfl ho hc hm Ff hgd (hr.mono hj) tk hb ht
theorem de_calI (C : CalI X.prog X.w X.K X.mg X.base G j c ps F) (hgd : X.A.guards = some []) (hr : Room k X.A) (hj : j + 1 ≤ k) (tk : Takes X W) (ha : PA X (e :: es) (LEs (pk X G) PV W fl)) (hn : ps.length = n := by rfl) (hg : Gl X c := by rfl)
    (hdb : (c == ("__debug__" : Str)) = false := by decide) (he : starEach (e :: es) X.env = (false, eval e X.env) :: starEach es X.env := by rfl) (hpl : (backTo pos (starEach es X.env)).any (·.1) = false := by rfl) :
    PE X (.Call (.Name c p) (e :: es) [] pos) (LE (pk X G) PV W (M.bind fl (gMake n c F))) := by
  subst hn
  obtain ⟨f, fd, Ff, hm, hc, hb, _⟩ := C.ex
  exact de_make rfl hm Ff hgd (hr.mono hj) tk hg hc hb ha hdb he hpl
theorem de_calI0 (C : CalI X.prog X.w X.K X.mg X.base G j c ps F) (hgd : X.A.guards = some []) (hr : Room k X.A) (hj : j + 1 ≤ k) (tk : Takes X W) (hn : ps.length = n := by rfl) (hg : Gl X c := by rfl) (hdb : (c == ("__debug__" : Str)) = false := by decide) :
    PE X (.Call (.Name c p) [] [] pos) (LE (pk X G) PV W (M.bind esNil (gMake n c F))) := by
  subst hn
  obtain ⟨f, fd, Ff, hm, hc, hb, _⟩ := C.ex
  exact de_make0 rfl hm Ff hgd (hr.mono hj) tk hg hc hb hdb
end
section
variable {P : Program} {w : World} {K : PySem.W.Frag} {mg : Str → Option Value} {base : Heap} {G : Str → Addr} {k : Nat} {c m qual : Str} {st : Stmt} {f : Addr} {fd : FuncData} {N ps : List Str} {b : M Fl}
theorem CalM.of (F : L2.Fun K m qual st f fd) (hm : Meth K (G c) m f) (hc : Cls K (G c)) (hb : Binds K fd ps []) (S : FnScope N ps (defScope st))
    (hbody : ∀ (cdv : Value) (A : Around) (outer : List Env) (s : Shared) (H : Hp) (vs : List V) (Ex : XK), A.guards = some [] → Room k (A.deeper (envOfC qual (defScope st) s.heap.objs.size f cdv)) →
      PSs (cxOf (L2.CX P w) P w K mg base N qual (defScope st) f cdv A outer s H Ex) (defBody st) (LS ⟨K, G⟩ vs (fun c d _ H => Ex c d H) b)) : CalM P w K mg base G (k + 1) c m ps (fnE N.length b) := by
  obtain ⟨oc, od, kV, doc, pm, an, cdv, ct, osl, rfl, lk, hcd⟩ := F.ex
  exact ⟨f, _, fn_of lk hcd S fun A outer s H vs Ex hg hr => hbody cdv A outer s H vs Ex hg hr, hm, hc, hb, _, lk, rfl⟩
theorem CalI.of (F : L2.Fun K "__init__" qual st f fd) (hm : Mk K (G c) f) (hc : mg c = some (.ref (G c))) (hb : Binds K fd ps []) (S : FnScope N ps (defScope st))
    (hbody : ∀ (cdv : Value) (A : Around) (outer : List Env) (s : Shared) (H : Hp) (vs : List V) (Ex : XK), A.guards = some [] → Room k (A.deeper (envOfC qual (defScope st) s.heap.objs.size f cdv)) →
      PSs (cxOf (L2.CX P w) P w K mg base N qual (defScope st) f cdv A outer s H Ex) (defBody st) (LS ⟨K, G⟩ vs (fun c d _ H => Ex c d H) b)) : CalI P w K mg base G (k + 1) c ps (fnE N.length b) := by
  obtain ⟨oc, od, kV, doc, pm, an, cdv, ct, osl, rfl, lk, hcd⟩ := F.ex
  exact ⟨f, _, fn_of lk hcd S fun A outer s H vs Ex hg hr => hbody cdv A outer s H vs Ex hg hr, hm, hc, hb, _, lk, rfl⟩
end
end DL
set_option Elab.async false
set_option linter.all false
set_option maxRecDepth 100000
set_option maxHeartbeats 4000000
/-! DL32: the law's own call, from the meaning of law. -/
namespace DL
open PySem L2 PySem.Spec PyProof.Rows

theorem cx_none {P : Program} {w : World} {H : Hp} {s : Shared} {e : Value} {s' : Shared} (h : L2.CX P w [] H s (fun _ _ _ => False) e s') : False := by
  obtain ⟨_, _, _, _, _, _, _, _, _, _, _, _, h⟩ := h
  exact h
/-- the script's heap: the script alone, frozen, or nothing -/
theorem law_from {P : Program} {w : World} {K : PySem.W.Frag} {mg mb : Str → Option Value} {k : Nat} {fa a : Addr} {fd : FuncData} {x : Str} {sp : Sp} {s₁ : Shared} {vs : List Value} {H : Hp}
    (KX : K.In s₁.heap) (hns : s₁.heap.Ns mainGlobals mg) (hb : s₁.heap.Ns builtinsNs mb) (hbb : ∀ x : Str, x ≠ "__name__" → mb x = bootBuiltins x) (hlim : s₁.heap.NoLimit) (hg : s₁.gens = #[])
    (ha : s₁.heap.get? a = some { cls := .type "list", data := .seq vs.toArray }) (hr : Room k callerA) (F : ∀ base : Heap, K.In base → base.Ns mainGlobals mg → Fn P w K mg base k fa fd [x] sp) (hbind : ∀ (s : Shared) (u : Value), BindsTo s fd ⟨[u], []⟩ [(x, u)])
    (hsp : sp [.ref a] H (fun v _ => v = .bl true) fun _ _ _ => False) (hO : Only H) (hok : HOk P w H s₁.heap) (hA : ∀ b, H b ≠ none → b = a) (hK : H a ≠ none → K.lookup a = none) :
    codeAny (model P w) callerA (.call (.ref fa) ⟨[.ref a], []⟩) (fun r s' => r = .ok (.ret (.bool true)) ∧ OldK s₁.heap s'.heap ∧ s'.os = s₁.os ∧ AllBare s'.gens) s₁ := by
  have free : ∀ {b : Addr} {o : Obj}, s₁.heap.get? b = some o → (b = a → False) → H b = none := fun {b o} e n => by
    cases q : H b with
    | none => rfl
    | some u => exact (n (hA b (by rw [q]; simp))).elim
  have nsK : ∀ {b : Addr} {m : Str → Option Value}, s₁.heap.Ns b m → (hidT s₁.heap H).Ns b m := fun {b m} ⟨o, es, ep, e, d, r⟩ => ⟨o, es, ep, hidT_get e (free e fun q => by
    subst q
    rw [ha] at e
    cases e
    have d' : Data.seq vs.toArray _ = Data.dict es ep := d
    cases d'), d, r⟩
  have hKb : K.In (hidT s₁.heap H) := fun b o e => by
    have e1 := KX b o e
    by_cases q : H b = none
    · exact hidT_get e1 q
    · have e2 := hA b q
      subst e2
      rw [hK q] at e; cases e
  have hM : Mod K mg (hidT s₁.heap H) := ⟨hKb, nsK hns, ⟨mb, nsK hb, hbb⟩, let ⟨mc, h1, h2⟩ := hlim; ⟨mc, nsK h1, h2⟩⟩
  have e0 : Env0 P w K mg (hidT s₁.heap H) callerA [] s₁ H := ⟨rfl, hM, fun b o e => of_hidT e, Nat.le_of_eq (hidT_size _ _), trivial, fun b hb => absurd (show b ∈ ([] : List Addr) from hb) (by simp), hok, .of_eq hg⟩
  refine codeAny_mono ((F _ hKb (nsK hns)).run callerA [] s₁ H ⟨[.ref a], []⟩ [.ref a] [.ref a] _ _ rfl hr e0 (hbind s₁ (.ref a)) (.cons rfl .nil) hsp) fun r s' h => ?_
  cases r with
  | error e => exact (cx_none h).elim
  | ok fl =>
    cases fl with
    | next => exact False.elim h
    | brk => exact False.elim h
    | cont => exact False.elim h
    | ret u =>
      obtain ⟨v, H', os, bare, un, hok', r', q⟩ := h
      have q' : v = .bl true := q
      subst q'
      obtain rfl : u = Value.bool true := r'
      refine ⟨rfl, OldK.of_keep fun b o e => ?_, os, bare⟩
      cases q : H b with
      | none => exact un.keep b o e q (by intro z; exact absurd (show b ∈ ([] : List Addr) from z) (by simp)) (by simp)
      | some u =>
        rcases hO b with z | ⟨ob, xs, z⟩
        · rw [q] at z; cases z
        · have z2 := un.frzs b ob _ z
          obtain ⟨e1, _⟩ := hok b _ z
          obtain ⟨e2, _⟩ := hok' b _ z2
          rw [e] at e1; cases e1
          exact e2
/-- what is asked of law's meaning -/
def LawTrue (d : M E) (n : Nat) : Prop := ∀ ns : List Int, ns.length ≤ n → (∀ z ∈ ns, Builtin.Int.intBits z ≤ 1048576) → ∃ ρ s, d [.val (.scr ns)] [] = .ok (.v (.bl true)) ρ s
theorem sp_law {K : PySem.W.Frag} {G : Str → Addr} {d : M E} {a : Addr} {ns : List Int} {H : Hp} (h : ∃ ρ s, d [.val (.scr ns)] [] = .ok (.v (.bl true)) ρ s) (hS : SqL K H a (ns.map V.int)) : spD ⟨K, G⟩ 1 d [.ref a] H (fun v _ => v = .bl true) fun _ _ _ => False := by
  refine ⟨rfl, ⟨H, H, [], [.val (.scr ns)], []⟩, rfl, rfl, ⟨fun b o e => .inl e, rfl, List.nodup_nil, fun n b c h => by simp at h, fun i y hy => ?_, fun i j b h1 h2 => ?_, Nat.le_refl _⟩, fun j c q => ?_, ?_⟩
  · cases i with
    | zero => cases hy; exact ⟨.ref a, rfl, .scr hS⟩
    | succ i => simp at hy
  · obtain ⟨⟨c, hc⟩, _⟩ := h1
    cases i with
    | zero => rcases hc with hc | hc <;> cases hc
    | succ i => rcases hc with hc | hc <;> simp at hc
  · cases j with
    | zero => cases q
    | succ j => simp at q
  · obtain ⟨ρ, s, e⟩ := h
    show Acc _ _ _ _ _ _ (d [.val (.scr ns)] []) _
    rw [e]
    intro v F H' m x S r
    cases (show Rep _ F m v (.bl true) from r)
    rfl
theorem walkF {l : PySem.W.OpenLaw} {n k : Nat} {q : Program} {loose : List Str} {XP : (Str → Option Value) → Heap → Prop} {YP : World → Heap → Prop} {d : DefRec} {K : Params → PySem.W.Frag} {x : Str} {dl : M E}
    (hn : l.most = some n) (hn2 : n ≤ sizeLine) (hdf : d.params.defaults = []) (hr : Room k callerA) (hY : ∀ (w : World) (h : Heap), YP w h → (K w.params).In h)
    (F : ∀ (w : World) (mg : Str → Option Value) (fa : Addr) (h : Heap), (K w.params).In h → h.Ns mainGlobals mg → mg d.name = some (.ref fa) →
      ∃ (fd : FuncData) (G : Str → Addr), (∀ (s : Shared) (u : Value), BindsTo s fd ⟨[u], []⟩ [(x, u)]) ∧ ∀ base : Heap, (K w.params).In base → base.Ns mainGlobals mg → Fn l.prog w (K w.params) mg base k fa fd [x] (spD ⟨K w.params, G⟩ 1 dl))
    (hl : LawTrue dl n) : PySem.W.WalkO q loose XP YP l.row.toRowW d [] (fun f vs => PySem.call f vs) := by
  refine Att.attach_callB hn hdf fun w s₀ s₁ mg mb fa o pm cd doc a vs ns Gd Y ho hd hcd hmg hobj hints hlen hbits hg => ?_
  have KX := hY w _ Y
  obtain ⟨fd, G, hb, hF⟩ := F w mg fa _ KX Gd.T.g hmg
  have hl' := hl ns hlen hbits
  have rv := vals_ints hints
  have lenV := hints.length
  have hlz := Nat.le_trans hlen hn2
  cases hk : (K w.params).lookup a with
  | some o =>
    have e := KX a o hk
    rw [hobj] at e
    cases e
    exact law_from (H := fun _ => none) KX Gd.T.g Gd.T.b Gd.T.builtins Gd.T.nolimit hg hobj hr hF hb (sp_law (ns := ns) hl' (.inr ⟨_, vs.toArray, _, hk, rfl, rfl, rfl, by rw [List.size_toArray, lenV]; exact hlz, by simpa using rv⟩)) (fun _ => .inl rfl) (fun b u z => by cases z) (fun b z => absurd rfl z) fun z => absurd rfl z
  | none =>
    refine law_from (H := fun b => if b = a then some (.frz { cls := .type "list", data := .seq vs.toArray } (.lst (ns.map V.int))) else none) KX Gd.T.g Gd.T.b Gd.T.builtins Gd.T.nolimit hg hobj hr hF hb (sp_law (ns := ns) hl' (.inl (.inr ⟨{ cls := .type "list", data := .seq vs.toArray }, if_pos rfl⟩))) (fun b => ?_) (fun b u z => ?_) (fun b z => ?_) fun _ => hk
    · by_cases hb : b = a
      · exact .inr ⟨_, _, if_pos hb⟩
      · exact .inl (if_neg hb)
    · by_cases hb : b = a
      · have z' := (if_pos hb).symm.trans z
        cases z'
        subst hb
        exact ⟨hobj, by rw [List.length_map]; exact hlz, vs, _, rv, hobj⟩
      · have z' := (if_neg hb).symm.trans z
        cases z'
    · by_cases hb : b = a
      · exact hb
      · exact absurd (if_neg hb) z
end DL
set_option Elab.async false
set_option linter.all false
set_option maxRecDepth 100000
set_option maxHeartbeats 4000000
/-! DL33: len(set(xs)), xs a list or tuple of texts. -/
namespace DL
open PySem PySem.Spec PyProof.Rows SS
/-- how many different ones among the first i -/
def cnt (xs : List Str) (i : Nat) : Nat := match i with
  | 0 => 0
  | i + 1 => if (xs.take i).any (· == xs.getD i Str.empty) then cnt xs i else cnt xs i + 1
theorem cnt_le (xs : List Str) : ∀ i, cnt xs i ≤ i
  | 0 => Nat.le_refl _
  | i + 1 => by
    have := cnt_le xs i
    unfold cnt
    split <;> omega
theorem cnt_succ (xs : List Str) {i : Nat} (h : i < xs.length) : (if (xs.take i).any (· == xs.getD i Str.empty) then cnt xs i else cnt xs i + 1) = cnt xs (i + 1) := rfl
theorem cnt_any (xs : List Str) {i : Nat} (h : i < xs.length) (k : Str) : ((xs.take i).any (· == k) || decide (k = xs.getD i Str.empty)) = (xs.take (i + 1)).any (· == k) := by
  rw [List.take_succ, List.any_append, List.getD_eq_getElem?_getD, List.getElem?_eq_getElem h]
  congr 1
  by_cases e : k = xs[i]
  · subst e; simp
  · have hb : (xs[i] == k) = false := by simpa [beq_iff_eq] using (fun h' : xs[i] = k => e h'.symm)
    simp [hb, e]
section
variable {prog : Program} {w : World} {A : Around} {R : Result → Shared → Prop} {I : Addr} {fp wr : List Addr} {G : Array GenState → Array GenState → Prop} {n : Nat} {P : Nat → Value → Prop} {St : Nat → Shared → Prop}
theorem loopStrs (W : WalksS prog w A.in1 I fp wr G n P St) (S : Addr) (hSf : S ∉ fp) (xs : List Str) (hsz : xs.length = n) (hn1 : n + 1 < scanBound)
    (hval : ∀ i v, P i v → ∃ t, v = .str (xs.getD i Str.empty) t) :
    ∀ (k i : Nat) (s : Shared), n - i = k → i ≤ n → St i s →
      s.heap.SetOf (PySem.strKind prog w) S (fun k' => (xs.take i).any (· == k')) (cnt xs i) →
      (∀ s', Moved (S :: wr) G s s' → s'.heap.SetOf (PySem.strKind prog w) S (fun k' => (xs.take n).any (· == k')) (cnt xs n) → R (.ok (.ret .none)) s') →
      codeAny (model prog w) A (.builtin "set.update.loop" ⟨[.ref S, .ref I], []⟩) R s := by
  have hSw : S ∉ wr := fun h => hSf (W.sub _ h)
  have hsub : ∀ b ∈ wr, b ∈ S :: wr := fun b hb => List.mem_cons_of_mem _ hb
  intro k
  induction k with
  | zero =>
    intro i s hk hi hst hS hR
    have hin : i = n := by omega
    subst hin
    refine codeAny_builtin PyProof.Rows.F.entry_set_update_loop ?_
    rw [Around.under_plainId PyProof.Rows.F.plain_set_update_loop _]
    show wpAny _ A.in1 (pyNext (.ref I) >>= _) _ _ s
    refine wpAny_bind (W.done s _ _ hst fun s' hm => ?_)
    show wpAny _ A.in1 (ret Value.none) _ _ s'
    exact wpAny_pure (hR s' (hm.mono hsub) (by
      obtain ⟨o, es, ep, t, ho, rest⟩ := hS
      exact ⟨o, es, ep, t, hm.heap S _ hSw ho, rest⟩))
  | succ k ih =>
    intro i s hk hi hst hS hR
    have hlt : i < n := by omega
    refine codeAny_builtin PyProof.Rows.F.entry_set_update_loop ?_
    rw [Around.under_plainId PyProof.Rows.F.plain_set_update_loop _]
    show wpAny _ A.in1 (pyNext (.ref I) >>= _) _ _ s
    refine wpAny_bind (W.item i s _ _ hlt hst fun v s' hP hst' hm => ?_)
    obtain ⟨t, rfl⟩ := hval i v hP
    have hS' : s'.heap.SetOf (PySem.strKind prog w) S (fun k' => (xs.take i).any (· == k')) (cnt xs i) := by
      obtain ⟨o, es, ep, tb, ho, rest⟩ := hS
      exact ⟨o, es, ep, tb, hm.heap S _ hSw ho, rest⟩
    show wpAny _ A.in1 (holding [Value.str (xs.getD i Str.empty) t] (setAdd S (.str (xs.getD i Str.empty) t)) >>= _) _ _ s'
    refine wpAny_bind (wpAny_holding ?_)
    unfold setAdd
    refine wpAny_holding ?_
    refine wpAny_bind ((PySem.strKind prog w).pyHash (k := xs.getD i Str.empty) (strKind_is _ _ _ _) ?_)
    have hroom : cnt xs i + 1 < scanBound := by have := cnt_le xs i; omega
    refine wpAny_setAddHashed_of (knd := PySem.strKind prog w) (s := { s' with toks := s'.toks + 1 }) (strKind_is _ _ _ _) rfl hS' hroom fun h' hsb hS2 => ?_
    have hSi : h'.SetOf (PySem.strKind prog w) S (fun k' => (xs.take (i + 1)).any (· == k')) (cnt xs (i + 1)) :=
      SetOf_congr hS2 (fun k' => cnt_any xs (by omega) k') (cnt_succ xs (by omega))
    refine wpAny_pure ⟨plainId_quiet PyProof.Rows.F.plain_set_update_loop _, ih (i + 1) _ (by omega) hlt (W.frame _ s' _ _ hst' (Nat.le_succ _) fun b hb o e => ?_) hSi fun s'' hm'' hS'' => ?_⟩
    · rw [hsb.2 b (fun h : b = S => hSf (by rw [← h]; exact hb))]; exact e
    · refine hR s'' (Moved.trans W.gtrans ((hm.mono hsub).then_heap (Nat.le_succ _) fun b o hb e => ?_) hm'') hS''
      rw [hsb.2 b (fun h : b = S => hb (by rw [h]; exact List.mem_cons_self))]; exact e
end
section
variable {prog : Program} {w : World} {A : Around} {E : Value → Shared → Prop} {s : Shared}
set_option maxHeartbeats 3200000 in
theorem call_set_strs {l : Addr} {items : Array Value} {xs : List Str} {Q : Value → Shared → Prop}
    (hh : A.handled = none) (hl : s.heap.IsList l items) (hi : PyProof.Rows.StrsAre items.toList xs) (hn1 : xs.length + 1 < scanBound)
    (h : ∀ (h' : Heap) (tk : Nat), h'.SetOf (PySem.strKind prog w) s.heap.objs.size (fun k' => (xs.take items.size).any (· == k')) (cnt xs items.size) →
      (∀ b o, b < s.heap.objs.size → s.heap.get? b = some o → h'.get? b = some o) → Q (.ref s.heap.objs.size) { s with heap := h', toks := tk }) :
    wpAny (model prog w) A (call (.type "set") [.ref l]) Q E s := by
  obtain ⟨c, tl, hmro⟩ := PySem.F.called_set.mro
  have hmade := PySem.F.called_set.made
  have hsub := PySem.F.called_set.sub
  refine wpAny_call (codeAny_of_tree ?_)
  show wpAny _ _ (callAny (.type "set") _) _ _ _
  refine wpAny_pure ⟨Code.quiet_builtin _ (by decide +kernel), codeAny_builtin PySem.F.entry_type_call ?_⟩
  rw [Around.under_plain (weight_type_call_type "set" [.ref l] []) rfl]
  have h1 := PySem.F.called_set.notType
  have h2 := PySem.F.called_set.canCreate
  have hct := PySem.F.typeCall_set_1 (.ref l)
  repeat (any_goals (first | assumption | wp_step))

  refine codeAny_mono (code_set_new_1 (.ref l) (E := E) (Q₁ := fun obj s₁ => ∃ led : Bool, obj = .ref s.heap.objs.size ∧ s₁ = { s with heap := s.heap.push { cls := .type "set", dict := none, data := .set #[] 0 (.fresh 0 0 led) } }) fun led => ⟨led, rfl, rfl⟩) fun r s₁ hr => ?_
  cases r with
  | error e => exact hr
  | ok fl =>
    cases fl with
    | ret obj =>
      obtain ⟨led, rfl, rfl⟩ := hr
      have hS : (s.heap.push { cls := .type "set", dict := none, data := .set #[] 0 (.fresh 0 0 led) }).get? s.heap.objs.size = some { cls := .type "set", dict := none, data := .set #[] 0 (.fresh 0 0 led) } := Heap.get?_push_size _ rfl
      have hT : Shared.TypeIs { s with heap := s.heap.push { cls := .type "set", dict := none, data := .set #[] 0 (.fresh 0 0 led) } } (.ref s.heap.objs.size) "set" := ⟨_, hS, rfl⟩
      have hli := PySem.F.called_set.init.lookup
      have hbi := PySem.F.called_set.init.bind (.ref s.heap.objs.size)
      repeat (any_goals (first | assumption | wp_step))

      refine codeAny_mono (codeAny_call_builtin (R := wants (fun r s₂ => r = .none ∧ ∃ h' tk, s₂ = { s with heap := h', toks := tk } ∧
          h'.SetOf (PySem.strKind prog w) s.heap.objs.size (fun k' => (xs.take items.size).any (· == k')) (cnt xs items.size) ∧
          (∀ b o, b < s.heap.objs.size → s.heap.get? b = some o → h'.get? b = some o)) E) PySem.F.called_set.init.plain PySem.F.entry_set_init (check_set_init_1 hT ?_)) fun r₂ s₂ hr₂ => ?_
      · obtain ⟨ol, hol, hcl, nl, hdl⟩ := hl
        obtain ⟨ocls, odict, odata, oslots⟩ := ol
        simp only at hcl hdl
        subst hcl; subst hdl
        have hol' : (s.heap.push { cls := .type "set", dict := none, data := .set #[] 0 (.fresh 0 0 led) }).get? l = some { cls := .type "list", dict := odict, data := .seq items nl, slots := oslots } := Heap.get?_push_of_some _ hol
        have hsls := PySem.F.sub_list_set
        have hslf := PySem.F.sub_list_frozenset
        have hne : (Value.type "list" == Value.type "dict") = false := by decide
        have hl1 : (s.heap.push { cls := .type "set", dict := none, data := .set #[] 0 (.fresh 0 0 led) }).IsList l items := ⟨_, hol', rfl, nl, rfl⟩
        unfold Builtin.«set.__init__» noKeywords Builtin.Frozenset.updateFrom
        generalize hPI : pyIter = PI
        wp_walk
        subst hPI

        refine wpAny_pyIter_list hl1 ?_
        refine wpAny_bind (wpAny_runValue ?_)
        have hlS : l < s.heap.objs.size := Heap.lt_size hol
        have hh3 : A.in1.in1.in1.handled = none := by simp [hh]
        have hneI : l ≠ (s.heap.push { cls := .type "set", dict := none, data := .set #[] 0 (.fresh 0 0 led) }).objs.size := by
          rw [Heap.size_push]; exact Nat.ne_of_lt (Nat.lt_succ_of_lt hlS)
        have hSf : s.heap.objs.size ∉ [(s.heap.push { cls := .type "set", dict := none, data := .set #[] 0 (.fresh 0 0 led) }).objs.size, l] := by
          rw [Heap.size_push]; simp only [List.mem_cons, List.mem_singleton, List.not_mem_nil, or_false, not_or]
          exact ⟨Nat.ne_of_lt (Nat.lt_succ_self _), Nat.ne_of_gt hlS⟩
        have hsz : xs.length = items.size := by rw [← StrsAre.len_eq hi, Array.length_toList]
        have hval : ∀ (i : Nat) (v : Value), items[i]? = some v → ∃ t, v = .str (xs.getD i Str.empty) t := fun i v hv => strs_at hi i v (by rw [Array.getElem?_toList]; exact hv)
        refine loopStrs ((Walks.list hh3 _ l hneI items).toS) s.heap.objs.size
          hSf xs hsz (by rw [← hsz]; exact hn1) hval (items.size - 0) 0 _ (by omega) (Nat.zero_le _)
          ⟨⟨_, Heap.get?_push_size _ rfl, rfl, rfl⟩, (hl1.push _)⟩ ?hS0 ?hR
        case hS0 =>
          have hget : ((s.heap.push { cls := .type "set", dict := none, data := .set #[] 0 (.fresh 0 0 led) }).push { cls := .type "list_iterator", data := .fields #[.ref l, .int 0 0] }).get? s.heap.objs.size
              = some { cls := .type "set", dict := none, data := .set #[] 0 (.fresh 0 0 led) } := Heap.get?_push_of_some _ hS
          exact PyProof.Rows.SetOf_congr ((PyProof.Rows.setObjOf_fresh (knd := PySem.strKind prog w) led).setOf hget (by unfold scanBound; omega)) (fun _ => rfl) rfl
        case hR =>
          intro s' hm hS'
          obtain ⟨h', g', d', tk', os'⟩ := s'
          have eg : g' = s.gens := hm.gens
          have ed : d' = s.drawn := hm.drawn
          have eo : os' = s.os := hm.os
          subst eg; subst ed; subst eo
          show wpAny _ _ _ _ _ _
          refine wpAny_pure ?_
          show wpAny _ _ (ret Value.none) _ _ _
          refine wpAny_pure ⟨rfl, h', tk', rfl, hS', fun b o hb e => ?_⟩
          have hb1 : b ≠ s.heap.objs.size := Nat.ne_of_lt hb
          have hb2 : b ≠ (s.heap.push { cls := .type "set", dict := none, data := .set #[] 0 (.fresh 0 0 led) }).objs.size := by
            rw [Heap.size_push]; exact Nat.ne_of_lt (Nat.lt_succ_of_lt hb)
          exact hm.heap b o (by simp only [List.mem_cons, List.mem_singleton, List.not_mem_nil, or_false, not_or]; exact ⟨hb1, hb2⟩) (Heap.get?_push_of_some _ (Heap.get?_push_of_some _ e))

      · cases r₂ with
        | error e => exact hr₂
        | ok fl₂ =>
          cases fl₂ with
          | ret r =>
            obtain ⟨rfl, h', tk, rfl, hS', hk'⟩ := hr₂
            repeat (any_goals (first | assumption | wp_step))
            exact h _ _ hS' hk'
          | _ => exact hr₂.elim
    | _ => exact hr.elim

set_option maxHeartbeats 3200000 in
theorem call_set_strsT {l : Addr} {items : Array Value} {xs : List Str} {Q : Value → Shared → Prop}
    (hh : A.handled = none) (hl : s.heap.IsTuple l items) (hi : PyProof.Rows.StrsAre items.toList xs) (hn1 : xs.length + 1 < scanBound)
    (h : ∀ (h' : Heap) (tk : Nat), h'.SetOf (PySem.strKind prog w) s.heap.objs.size (fun k' => (xs.take items.size).any (· == k')) (cnt xs items.size) →
      (∀ b o, b < s.heap.objs.size → s.heap.get? b = some o → h'.get? b = some o) → Q (.ref s.heap.objs.size) { s with heap := h', toks := tk }) :
    wpAny (model prog w) A (call (.type "set") [.ref l]) Q E s := by
  obtain ⟨c, tl, hmro⟩ := PySem.F.called_set.mro
  have hmade := PySem.F.called_set.made
  have hsub := PySem.F.called_set.sub
  refine wpAny_call (codeAny_of_tree ?_)
  show wpAny _ _ (callAny (.type "set") _) _ _ _
  refine wpAny_pure ⟨Code.quiet_builtin _ (by decide +kernel), codeAny_builtin PySem.F.entry_type_call ?_⟩
  rw [Around.under_plain (weight_type_call_type "set" [.ref l] []) rfl]
  have h1 := PySem.F.called_set.notType
  have h2 := PySem.F.called_set.canCreate
  have hct := PySem.F.typeCall_set_1 (.ref l)
  repeat (any_goals (first | assumption | wp_step))

  refine codeAny_mono (code_set_new_1 (.ref l) (E := E) (Q₁ := fun obj s₁ => ∃ led : Bool, obj = .ref s.heap.objs.size ∧ s₁ = { s with heap := s.heap.push { cls := .type "set", dict := none, data := .set #[] 0 (.fresh 0 0 led) } }) fun led => ⟨led, rfl, rfl⟩) fun r s₁ hr => ?_
  cases r with
  | error e => exact hr
  | ok fl =>
    cases fl with
    | ret obj =>
      obtain ⟨led, rfl, rfl⟩ := hr
      have hS : (s.heap.push { cls := .type "set", dict := none, data := .set #[] 0 (.fresh 0 0 led) }).get? s.heap.objs.size = some { cls := .type "set", dict := none, data := .set #[] 0 (.fresh 0 0 led) } := Heap.get?_push_size _ rfl
      have hT : Shared.TypeIs { s with heap := s.heap.push { cls := .type "set", dict := none, data := .set #[] 0 (.fresh 0 0 led) } } (.ref s.heap.objs.size) "set" := ⟨_, hS, rfl⟩
      have hli := PySem.F.called_set.init.lookup
      have hbi := PySem.F.called_set.init.bind (.ref s.heap.objs.size)
      repeat (any_goals (first | assumption | wp_step))

      refine codeAny_mono (codeAny_call_builtin (R := wants (fun r s₂ => r = .none ∧ ∃ h' tk, s₂ = { s with heap := h', toks := tk } ∧
          h'.SetOf (PySem.strKind prog w) s.heap.objs.size (fun k' => (xs.take items.size).any (· == k')) (cnt xs items.size) ∧
          (∀ b o, b < s.heap.objs.size → s.heap.get? b = some o → h'.get? b = some o)) E) PySem.F.called_set.init.plain PySem.F.entry_set_init (check_set_init_1 hT ?_)) fun r₂ s₂ hr₂ => ?_
      · obtain ⟨ol, hol, hcl, nl, hdl⟩ := hl
        obtain ⟨ocls, odict, odata, oslots⟩ := ol
        simp only at hcl hdl
        subst hcl; subst hdl
        have hol' : (s.heap.push { cls := .type "set", dict := none, data := .set #[] 0 (.fresh 0 0 led) }).get? l = some { cls := .type "tuple", dict := odict, data := .seq items nl, slots := oslots } := Heap.get?_push_of_some _ hol
        have hsls := PySem.F.sub_tuple_set
        have hslf := PySem.F.sub_tuple_frozenset
        have hne : (Value.type "tuple" == Value.type "dict") = false := by decide
        have hl1 : (s.heap.push { cls := .type "set", dict := none, data := .set #[] 0 (.fresh 0 0 led) }).IsTuple l items := ⟨_, hol', rfl, nl, rfl⟩
        unfold Builtin.«set.__init__» noKeywords Builtin.Frozenset.updateFrom
        generalize hPI : pyIter = PI
        wp_walk
        subst hPI

        refine wpAny_pyIter_tuple hl1 ?_
        refine wpAny_bind (wpAny_runValue ?_)
        have hlS : l < s.heap.objs.size := Heap.lt_size hol
        have hh3 : A.in1.in1.in1.handled = none := by simp [hh]
        have hneI : l ≠ (s.heap.push { cls := .type "set", dict := none, data := .set #[] 0 (.fresh 0 0 led) }).objs.size := by
          rw [Heap.size_push]; exact Nat.ne_of_lt (Nat.lt_succ_of_lt hlS)
        have hSf : s.heap.objs.size ∉ [(s.heap.push { cls := .type "set", dict := none, data := .set #[] 0 (.fresh 0 0 led) }).objs.size, l] := by
          rw [Heap.size_push]; simp only [List.mem_cons, List.mem_singleton, List.not_mem_nil, or_false, not_or]
          exact ⟨Nat.ne_of_lt (Nat.lt_succ_self _), Nat.ne_of_gt hlS⟩
        have hsz : xs.length = items.size := by rw [← StrsAre.len_eq hi, Array.length_toList]
        have hval : ∀ (i : Nat) (v : Value), items[i]? = some v → ∃ t, v = .str (xs.getD i Str.empty) t := fun i v hv => strs_at hi i v (by rw [Array.getElem?_toList]; exact hv)
        refine loopStrs ((Walks.tuple hh3 _ l hneI items).toS) s.heap.objs.size
          hSf xs hsz (by rw [← hsz]; exact hn1) hval (items.size - 0) 0 _ (by omega) (Nat.zero_le _)
          ⟨⟨_, Heap.get?_push_size _ rfl, rfl, rfl⟩, (hl1.push _)⟩ ?hS0 ?hR
        case hS0 =>
          have hget : ((s.heap.push { cls := .type "set", dict := none, data := .set #[] 0 (.fresh 0 0 led) }).push { cls := .type "tuple_iterator", data := .fields #[.ref l, .int 0 0] }).get? s.heap.objs.size
              = some { cls := .type "set", dict := none, data := .set #[] 0 (.fresh 0 0 led) } := Heap.get?_push_of_some _ hS
          exact PyProof.Rows.SetOf_congr ((PyProof.Rows.setObjOf_fresh (knd := PySem.strKind prog w) led).setOf hget (by unfold scanBound; omega)) (fun _ => rfl) rfl
        case hR =>
          intro s' hm hS'
          obtain ⟨h', g', d', tk', os'⟩ := s'
          have eg : g' = s.gens := hm.gens
          have ed : d' = s.drawn := hm.drawn
          have eo : os' = s.os := hm.os
          subst eg; subst ed; subst eo
          show wpAny _ _ _ _ _ _
          refine wpAny_pure ?_
          show wpAny _ _ (ret Value.none) _ _ _
          refine wpAny_pure ⟨rfl, h', tk', rfl, hS', fun b o hb e => ?_⟩
          have hb1 : b ≠ s.heap.objs.size := Nat.ne_of_lt hb
          have hb2 : b ≠ (s.heap.push { cls := .type "set", dict := none, data := .set #[] 0 (.fresh 0 0 led) }).objs.size := by
            rw [Heap.size_push]; exact Nat.ne_of_lt (Nat.lt_succ_of_lt hb)
          exact hm.heap b o (by simp only [List.mem_cons, List.mem_singleton, List.not_mem_nil, or_false, not_or]; exact ⟨hb1, hb2⟩) (Heap.get?_push_of_some _ (Heap.get?_push_of_some _ e))

      · cases r₂ with
        | error e => exact hr₂
        | ok fl₂ =>
          cases fl₂ with
          | ret r =>
            obtain ⟨rfl, h', tk, rfl, hS', hk'⟩ := hr₂
            repeat (any_goals (first | assumption | wp_step))
            exact h _ _ hS' hk'
          | _ => exact hr₂.elim
    | _ => exact hr.elim

end
open L2
def tLenSets (K : PySem.W.Frag) (ta : TE) : TE := fun σ H Q => ta σ H fun x H1 => ∃ l, ∃ xs : List Str, x = .ref l ∧ (SqL K H1 l (xs.map V.str) ∨ SqT K H1 l (xs.map V.str)) ∧ xs.length ≤ 1000 ∧ Q (.int (cnt xs xs.length)) H1
theorem pe_lenSets {X : Cx} {a : Expr} {ta : TE} {p p2 q pos : Pos} (hc : X.calm = true) (hg : Gl X "len") (hm : X.mg "len" = none) (hg2 : Gl X "set") (hm2 : X.mg "set" = none) (ha : PE X a ta)
    (na : starEach [a] X.env = (false, eval a X.env) :: starEach [] X.env := by rfl) : PE X (.Call (.Name "len" p) [.Call (.Name "set" p2) [a] [] q] [] pos) (tLenSets X.K ta) := by
  refine ⟨fun pins s σ H Q I h => ?_⟩
  refine Call_ (ld_blt I hg hm boot_len ?_)
  refine PyProof.Rows.callWith_builtin1 (PyProof.Rows.args_cons ?_ rfl) rfl rfl
  refine Call_ (ld_blt I hg2 hm2 boot_set ?_)
  refine PyProof.Rows.callWith_type1 (PyProof.Rows.args_cons (thn (ha.run pins s σ H _ I h) fun v s1 ⟨x, H1, I1, r1, q1⟩ => PyProof.Rows.args_nil ?_) na) na rfl
  obtain ⟨l, xs, rfl, hq, h1, q1⟩ := q1
  cases r1
  have fin : ∀ (its : List Value), Vals (xs.map V.str) its → ∀ (h' : Heap) (tk : Nat), h'.SetOf (PySem.strKind X.prog X.w) s1.heap.objs.size (fun k' => (xs.take its.toArray.size).any (· == k')) (cnt xs its.toArray.size) →
      (∀ b o, b < s1.heap.objs.size → s1.heap.get? b = some o → h'.get? b = some o) →
      wpAny (model X.prog X.w) X.A (spliced (backTo pos (starEach [] X.env))) (fun vs s₂ => wpAny (model X.prog X.w) X.A (call (.builtin "len") (Value.ref s1.heap.objs.size :: vs)) (EP X pins σ Q) X.xe s₂) X.xe { s1 with heap := h', toks := tk } := fun its r h' tk hS hk => by
    refine PyProof.Rows.args_nil ?_
    have hl : its.toArray.size = xs.length := by rw [List.size_toArray, ← r.length, List.length_map]
    rw [hl] at hS
    have hcn := cnt_le xs xs.length
    obtain ⟨o, es, ep, t, ho, hex, hd, _, _, _, hf, hn⟩ := hS
    have I2 : Inv X pins σ H1 { s1 with heap := h', toks := tk } := I1.kept fun b o e => hk b o (Heap.lt_size e) e
    refine call_len_set ho hex hd hf (by rw [hn] <;> omega) ⟨.int (cnt xs xs.length), H1, I2.tok _, ⟨_, by rw [hn]⟩, q1⟩
  rcases hq with hq | hq
  · obtain ⟨its, r, pl, hz⟩ := I1.list hq
    exact call_set_strs (I1.ok.hd hc) pl.isList (by simpa using strsAre_of r) (by unfold scanBound; omega) fun h' tk hS hk => fin its r h' tk hS hk
  · obtain ⟨its, r, pl, hz⟩ := I1.tuple hq
    exact call_set_strsT (I1.ok.hd hc) pl (by simpa using strsAre_of r) (by unfold scanBound; omega) fun h' tk hS hk => fin its r h' tk hS hk
/-- how many different texts -/
def gCnt (e : E) : M E := fun ρ s => match itemsE e ρ s with
  | some (_, xs) => match mapO strD xs with
    | some ys => if ys.length ≤ 1000 then .ok (.v (.int (cnt ys ys.length))) ρ s else .no
    | none => .no
  | none => .no
theorem de_lenSet {X : Cx} {G : Str → Addr} {PV : List V} {W : WX} {fa : M E} {a : Expr} {p p2 q pos : Pos} (hc : X.calm = true) (hm : X.mg "len" = none) (hm2 : X.mg "set" = none) (ha : PE X a (LE (pk X G) PV W fa)) (hg : Gl X "len" := by rfl) (hg2 : Gl X "set" := by rfl)
    (na : starEach [a] X.env = (false, eval a X.env) :: starEach [] X.env := by rfl) : PE X (.Call (.Name "len" p) [.Call (.Name "set" p2) [a] [] q] [] pos) (LE (pk X G) PV W (M.bind fa gCnt)) :=
  PEi (pe_lenSets hc hg hm hg2 hm2 ha na) fun σ H Q h => le_bind (rel := fun H => erel (pk X G) σ H) (fun k q => erel_org k q) h fun z1 v e1 S r A => by
    unfold gCnt at A
    split at A
    · rename_i b xs hi
      split at A
      · rename_i ys hy
        split at A
        · rename_i hz
          obtain ⟨a, vs, rfl, h1, l⟩ := itemsE_any S r hi
          have e := l.strsOf hy
          subst e
          exact ⟨a, ys, rfl, h1, hz, acc_val S (.int _) A⟩
        · exact A.elim
      · exact A.elim
    · exact A.elim
end DL
set_option Elab.async false
set_option linter.all false
set_option maxRecDepth 100000
set_option maxHeartbeats 4000000
/-! DL34: own exceptions over Exception, with an __init__ of their own. -/
namespace DL
open PySem PySem.Spec PyProof.Rows L2
abbrev exT : List Value := [.type "Exception", .type "BaseException", .type "object"]
/-- own classes, then Exception's mro -/
def refsEX : List Value → Bool
  | .ref _ :: r => refsEX r
  | l => l == exT
theorem refsEX_cases : ∀ l : List Value, refsEX l = true → (∃ c r, l = .ref c :: r ∧ refsEX r = true) ∨ l = exT := by
  intro l e
  cases l with
  | nil => exact .inr (beq_iff_eq.mp e)
  | cons v r =>
    cases v with
    | ref c => exact .inl ⟨c, r, rfl, e⟩
    | _ => exact .inr (beq_iff_eq.mp e)
theorem refsEX_pass (self : Value) : ∀ l : List Value, refsEX l = true → refuseLoop self "__setattr__" l = pure () := by
  intro l
  induction l with
  | nil => intro e; exact absurd e (by decide)
  | cons a r ih =>
    intro e
    rcases refsEX_cases (a :: r) e with ⟨c, r', q, h⟩ | q
    · obtain ⟨rfl, rfl⟩ := List.cons.inj q
      rw [refuseLoop_ref]; exact ih h
    · rw [q]; exact PySem.F.store_Exception.passes self
theorem refsEX_contains (X : String) : ∀ l : List Value, refsEX l = true → l.contains (.type X) = exT.contains (.type X) := by
  intro l
  induction l with
  | nil => intro e; exact absurd e (by decide)
  | cons a r ih =>
    intro e
    rcases refsEX_cases (a :: r) e with ⟨c, r', q, h⟩ | q
    · obtain ⟨rfl, rfl⟩ := List.cons.inj q
      rw [List.contains_cons, ih h]; rfl
    · rw [q]
theorem refsEX_ne {l : List Value} (e : refsEX l = true) : l.isEmpty = false := by
  cases l with
  | nil => exact absurd e (by decide)
  | cons _ _ => rfl
section
open Builtin Builtin.ObjectAttr PySem.HandSPX
variable {prog : Program} {w : World} {A : Around} {E : Value → Shared → Prop} {R : Result → Shared → Prop} {hp : Heap} {g : Array GenState} {d : Drawn} {t : Nat} {os : OsState}
theorem osa_exN {K : W.Frag} {name : Str} {tk : Tok} {v : Value} {x C : Addr} {fv : Array Value} {cd : ClassData}
    (X : K.In hp) (hx : hp.get? x = some { cls := .ref C, data := .fields fv }) (hcd : W.clsIn K C = some cd) (hm : refsEX cd.mro = true) (hh : cd.hasDict = true) (ha : W.findIn K (.ref C) name = some none)
    (hq : ∀ h' tk' dx, (∀ b o, b ≠ x → hp.get? b = some o → h'.get? b = some o) → hp.objs.size ≤ dx → dx ≠ x → h'.get? x = some { cls := .ref C, dict := some dx, data := .fields fv } →
      h'.Ns1 dx (fun y => if y = name then some v else none) → R (.ok (.ret .none)) ⟨h', g, d, tk', os⟩) :
    codeAny (model prog w) A (.call (.builtin "object.__setattr__") ⟨[.ref x, .str name tk, v], []⟩) R ⟨hp, g, d, t, os⟩ := by
  have I : W.InstAt hp x { cls := .ref C, data := .fields fv } C none := ⟨hx, rfl, rfl, trivial⟩
  have SF := F.store_object
  have ne := refsEX_ne hm
  have hob : cd.mro.contains (.type "object") = true := (refsEX_contains "object" _ hm).trans (by decide +kernel)
  have hxs : x ≠ hp.objs.size := Nat.ne_of_lt (Heap.lt_size hx)
  have sub : W.Looks (model prog w) hp (isInstance (.ref x) (.type "object")) true := I.type.andThen (W.looks_mroIn X (by unfold W.mroIn; rw [hcd, Option.bind_some, if_neg (by rw [ne]; decide), hob]))
  refine codeAny_call_builtin SF.slot.plain SF.entry (@W.check_slot (model prog w) _ _ ⟨hp, g, d, t, os⟩ "object.__setattr__" "object" "__setattr__" (.ref x) [.str name tk, v] [] _ SF.kind SF.split sub (SF.args (.ref x) (.str name tk) v) ?_)
  have hmr : W.Looks (model prog w) hp (mroOf (.ref C)) cd.mro := (W.looks_clsIn X hcd).andThen .now
  have L3 : W.Looks (model prog w) hp (storeTaker? none) none := .now
  have hcls : W.Looks (model prog w) hp (classData C) cd := W.looks_clsIn X hcd
  rw [W.osa_eq, refuse_eq]
  refine wpAny_bind (wpAny_bind (I.type.at (wpAny_bind (hmr.at ?_))))
  rw [refsEX_pass _ _ hm]
  refine wpAny_pure (wpAny_bind (I.type.at (wpAny_bind ((W.looks_findIn X ha).at (wpAny_bind (L3.at ?_))))))
  show wpAny _ _ (storeInOwnDict (.ref x) (.ref C) (.str name tk) name v false) _ _ _
  obtain ⟨nm, bs, mro, ns, qn, hd, sn, sb, ab, col, del⟩ := cd
  dsimp only at hh
  subst hh
  unfold storeInOwnDict ownDictForStores
  repeat (first | with_reducible refine store_in_new ?_ ?_ | with_reducible refine wpAny_loadPart_at hx ?_ | with_reducible refine hcls.at ?_ | wp_step)
  · exact ⟨_, #[], _, (Heap.get?_update_ne _ _ _ _ hxs.symm).trans (Heap.get?_push_at rfl rfl), rfl, fun e he => absurd he (by simp), fun _ => rfl⟩
  · intro h' tk' hn' hs
    have hx₁ : (hp.push { cls := .type "dict", data := .dict #[] }).get? x = some { cls := .ref C, data := .fields fv } := Heap.get?_push_of_some _ hx
    refine hq h' tk' hp.objs.size (fun b o hb ho => ?_) (Nat.le_refl _) hxs.symm ?_ hn'
    · exact (hs.2 b (Nat.ne_of_lt (Heap.lt_size ho))).trans ((Heap.get?_update_ne _ _ _ _ hb).trans (Heap.get?_push_of_some _ ho))
    · exact (hs.2 x hxs).trans (Heap.get?_update_self _ hx₁ rfl)
end
/-- what the written part says of the class -/
structure OexE (K : PySem.W.Frag) (C : Addr) : Prop where
  cls : ∃ nm q N bs bm sn sub ab col dd k0 k1 k2 k3 k5, K.lookup C = some (excClassObj nm q C N bs bm true sn sub ab col dd k0 k1 k2 k3 k5 "Exception.__new__") ∧ refsEX bm = true
  sa : PySem.W.findIn K (.ref C) "__setattr__" = some (some (.builtin "object.__setattr__"))
  exC : PySem.W.subIn K (.ref C) (.type "BaseException") = some true
  tyC : PySem.W.typeIn K (.ref C) = some (.type "type")
  kC : PySem.W.keepIn K (.ref C) = true
/-- E.__init__ of an own class without an __init__ of its own -/
structure ExB (K : PySem.W.Frag) (B : Addr) : Prop where
  rd : PySem.W.readsIn K B (.type "type") = true
  ga : PySem.W.specialIn K (.ref B) "__getattribute__" = some (some (.builtin "type.__getattribute__"))
  at_ : PySem.W.findCls K (.ref B) (.type "type") "__init__" = some (.val (.builtin "Exception.__init__"))
section
variable {X : Cx} {pins : List (Addr × Obj)} {σ : L2.St} {H : Hp} {s : Shared} {a C dx : Addr} {f : Str} {y : V} {u : Value} {fs : List (Str × V)} {Q : Unit → Shared → Prop} {E : Value → Shared → Prop} {A : Around}
/-- self.f = y, the first one -/
theorem ost_newE (T : OexE X.K C) (I : Inv X pins σ H s) (e : H a = some (exo a C none)) (hno : PySem.W.findIn X.K (.ref C) f = some none) (ry : RelV y u)
    (h : ∀ dx s', H dx = none → dx ≠ a → Inv X pins σ (upd (upd H dx (exd dx [(f, y)])) a (exo a C (some dx))) s' → Q () s') : wpAny (model X.prog X.w) A (setAttr (.ref a) f u) Q E s := by
  obtain ⟨nm, q, N, bs, bm, sn, sub, ab, col, dd, k0, k1, k2, k3, k5, hC, hbm⟩ := T.cls
  have hcl : PySem.W.clsIn X.K C = some { name := nm, bases := bs, mro := .ref C :: bm, ns := N, qualname := q, hasDict := true, slotNames := sn, subclasses := sub, abstract := ab, collection := col, hasDel := false } := by unfold PySem.W.clsIn; rw [hC] <;> rfl
  obtain ⟨t1, ho⟩ := exo_at I.hok e
  obtain ⟨hp, g, d, t, os⟩ := s
  refine PySem.W.set_plain I.kIn (ox := { cls := .ref C, dict := none, data := .fields #[.ref t1, .none, .none, .none, .bool false, .none] }) (od := none) ⟨ho, rfl, rfl, trivial⟩ T.sa ?_
  refine osa_exN I.kIn ho hcl (show refsEX (.ref C :: bm) = true from hbm) rfl hno (fun h' tk' dx k dn dne hx hn => ?_)
  have hnd : H dx = none := I.hok.fresh dn
  have nd : ∀ {b : Addr} {o : Obj}, hp.get? b = some o → b ≠ dx := fun {b o} q => Nat.ne_of_lt (Nat.lt_of_lt_of_le (Heap.lt_size q) dn)
  have na : ∀ {b : Addr}, H b = none → b ≠ a := fun {b} n z => by
    rw [z, e] at n
    cases n
  have Un1 : Un X.fs [] H (upd (upd H dx (exd dx [(f, y)])) a (exo a C (some dx))) hp h' := {
    keep := fun b o q n _ _ => k b o (na n) q
    slot := fun b o q n _ _ => ⟨o.slots, k b o (na n) q⟩
    free := fun b o q n _ => by rw [upd_ne (na n), upd_ne (nd q)]; exact n
    there := fun b o q _ => by
      by_cases hb : b = a
      · exact ⟨_, by rw [hb]; exact hx⟩
      · exact ⟨o, k b o hb q⟩
    tups := fun b xs q => by rw [upd_ne (at_ne e q exo_tup), upd_ne (ne_of_none q hnd)]; exact q
    frzs := fun b o v q => by rw [upd_ne (at_ne e q exo_frz), upd_ne (ne_of_none q hnd)]; exact q
    tbls := fun b ps q => ⟨#[], by rw [upd_ne (at_ne e q exo_tbl), upd_ne (ne_of_none q hnd), q]; simp⟩ }
  refine h dx _ hnd dne (I.un (t' := tk') Un1 fun b o q => ?_)
  by_cases hb : b = a
  · subst hb
    rw [upd_same] at q
    cases q
    exact exo_ok hx
  · rw [upd_ne hb] at q
    by_cases hd : b = dx
    · subst hd
      rw [upd_same] at q
      cases q
      exact exd_ok hn (relO_put (fs := []) ry fun g => True.intro)
    · rw [upd_ne hd] at q
      exact (I.hok b o q).stay (fun c v hc z => k c v (by
          rcases hc with hc | hc
          · rw [hc]
            exact hb
          · exact at_ne e hc exo_own) z)
        (fun c hc => by rw [upd_ne (at_ne e hc exo_own), upd_ne (ne_of_none hc hnd)]; exact hc) (fun c xs hc => by rw [upd_ne (at_ne e hc exo_tup), upd_ne (ne_of_none hc hnd)]; exact hc)
/-- Exception.__init__(self, ..): nothing of it is told -/
theorem oinit_okE {us : List Value} {Q : Value → Shared → Prop} (T : OexE X.K C) (I : Inv X pins σ H s) (e : H a = some (exo a C none)) (hl : us.length ≤ sizeLine) (h : ∀ s', Inv X pins σ H s' → Q .none s') :
    wpAny (model X.prog X.w) A (call (.builtin "Exception.__init__") (.ref a :: us)) Q E s := by
  obtain ⟨nm, q, N, bs, bm, sn, sub, ab, col, dd, k0, k1, k2, k3, k5, hC, hbm⟩ := T.cls
  obtain ⟨t1, ho⟩ := exo_at I.hok e
  obtain ⟨hp, g, d, t, os⟩ := s
  refine wpAny_call (PySem.HandSPX.init_base PySem.F.excBase_Exception (fun Y => refsEX_contains Y bm hbm) (I.kIn _ _ hC) ho hl fun h' t2 k hx => ?_)
  have J := I.write (t' := t) (x := a) (e := a) (o := exo a C none) (by rw [e]; exact True.intro) (.inl rfl) k ⟨_, hx⟩ (exo_ok hx)
  have eu : upd H a (exo a C none) = H := by
    funext b
    by_cases hb : b = a
    · rw [hb, upd_same, e]
    · rw [upd_ne hb]
  rw [eu] at J
  exact h _ J
end
end DL
set_option Elab.async false
set_option linter.all false
set_option maxRecDepth 100000
set_option maxHeartbeats 4000000
/-! DL35: raise C(e), C an own exception whose __init__ keeps its argument. -/
namespace DL
open PySem PySem.Spec PyProof.Rows L2
/-- EarlierError.__init__(self, ..) -/
def tEi (K : PySem.W.Frag) (ta : TA) : TE := fun σ H Q => ta σ H fun vs H1 => ∃ (a C : Addr) (ws : List V), vs = .ref a :: ws ∧ ws.length ≤ 1000 ∧ OexE K C ∧ H1 a = some (exo a C none) ∧ Q .non H1
/-- self.f = e, the first one -/
def tOs1 (K : PySem.W.Frag) (f : Str) (to te : TE) : TS := fun D σ H => te σ H fun y H1 => to σ H1 fun x H2 => ∃ a C : Addr, x = .ref a ∧ OexE K C ∧ PySem.W.findIn K (.ref C) f = some none ∧
  H2 a = some (exo a C none) ∧ ∀ dx, H2 dx = none → dx ≠ a → D.nx σ (upd (upd H2 dx (exd dx [(f, y)])) a (exo a C (some dx)))
section
variable {X : Cx} {o e : Expr} {es : List Expr} {to te : TE} {ta : TA} {f : Str} {p p' p1 p2 pos : Pos}
theorem pe_einit {B : Str} {b : Addr} {pl : Sem Bool} (T : ExB X.K b) (hm : X.mg B = some (.ref b)) (ha : PA X (e :: es) ta) (hg : Gl X B := by rfl) (hd : (B == ("__debug__" : Str)) = false := by decide)
    (hc : eval (.Call (.Attribute (.Name B p1) "__init__" p2) (e :: es) [] pos) X.env = (do
      let ov ← eval (.Name B p1) X.env
      standAt p2.atName
      let (f, first) ← holding [ov] (getMethod ov "__init__" pl)
      callWith pos f first (backTo pos (starEach (e :: es) X.env)) (backToKw pos (keywordEach [] X.env))) := by rfl)
    (he : starEach (e :: es) X.env = (false, eval e X.env) :: starEach es X.env := by rfl) (hpl : (backTo pos (starEach es X.env)).any (·.1) = false := by rfl) :
    PE X (.Call (.Attribute (.Name B p1) "__init__" p2) (e :: es) [] pos) (tEi X.K ta) := by
  refine ⟨fun pins s σ H Q I h => ?_⟩
  refine PySem.W.methodCall_KW (ld_glob I hg hm ?_ hd) hc
  refine PySem.W.method_cls I.kIn T.ga (PySem.W.cls_value I.kIn T.rd T.at_ (by rfl) ?_)
  show wpAny _ _ (callWith pos (Value.builtin "Exception.__init__") [] (backTo pos (starEach (e :: es) X.env)) []) _ _ _
  refine PyProof.Rows.callWith_method1 (thn (ha.run pos pins _ σ H _ (I.tok _) h) fun us s1 ⟨vs, H1, I1, r1, a, C, ws, ev, hl, T, ea, q⟩ => ?_) he hpl
  subst ev
  cases r1 with
  | @cons _ u0 _ ur ra rw' =>
    obtain rfl : u0 = Value.ref a := ra
    have hlen : ur.length ≤ sizeLine := by
      rw [← Paired.length rw', sizeLine_eq]
      omega
    exact oinit_okE T I1 ea hlen fun s' J => ⟨.non, H1, J, rfl, q⟩
theorem ps_os1 (ho : PE X o to) (he : PE X e te) (hs : swapsWith e (some (.Attribute o f p')) pos.line X.env = pure false := by rfl) : PS X (.Assign [.Attribute o f p'] e pos) (tOs1 X.K f to te) := by
  refine ⟨fun pins s σ H D I h => ?_⟩
  refine plainObj_wpAny_Assign_Attribute (thn (he.run pins s σ H _ I h) fun v s1 ⟨y, H1, I1, r1, q1⟩ => thn (ho.run pins s1 σ H1 _ I1 q1) fun u s2 ⟨x, H2, I2, r2, a, C, ex, T, hno, q⟩ => ?_) hs
  subst ex
  obtain rfl : u = Value.ref a := r2
  obtain ⟨ea, q⟩ := q
  exact ost_newE T I2 ea hno r1 fun dx s' n ne J => ⟨σ, _, J, q dx n ne⟩
theorem pmk_oexE {CX : CXT} {x : Str} {C fI : Addr} {k : Nat} {fd : FuncData} {ps : List Str} {sp : Sp} {ds : List Value} {dvs : List V} (T : OexE X.K C) (iC : PySem.W.findIn X.K (.ref C) "__init__" = some (some (.ref fI))) (tI : PySem.W.typeIn X.K (.ref fI) = some (.type "function"))
    (F1 : FnOk X.prog X.w X.K X.mg X.base CX k fI fd ps sp) (hr : Room (k + 1) X.A) (hb : Binds X.K fd ps ds) (hd : Vals dvs ds) (hx : Passes CX X (fun _ _ _ => False)) (hg : Gl X x) (hm : X.mg x = some (.ref C)) (ha : PA X (e :: es) ta)
    (hdb : (x == ("__debug__" : Str)) = false := by decide) (he : starEach (e :: es) X.env = (false, eval e X.env) :: starEach es X.env := by rfl) (hpl : (backTo pos (starEach es X.env)).any (·.1) = false := by rfl) :
    PMk X (.Call (.Name x p) (e :: es) [] pos) (tMkO C sp dvs ta) := by
  intro pins s σ H Q I h
  obtain ⟨nm, q, N, bs, bm, sn, sub, ab, col, dd, k0, k1, k2, k3, k5, hC, hbm⟩ := T.cls
  refine wpAny_Call_Name_kw (ld_glob I hg hm ?_ hdb)
  refine PySem.W.callWith_K (h₀ := X.base) I.ok.mod.kin T.kC (thn (ha.run pos pins s σ H _ I h) fun us s1 ⟨vs, H1, I1, r1, hz, q1⟩ => ⟨I1.kIn, ?_⟩) he hpl
  show wpAny _ _ (call (.ref C) us) _ _ _
  obtain ⟨hp, g, dr, tk, os⟩ := s1
  have hsz : hp.objs.size ≤ hp.objs.size + 1 := Nat.le_succ _
  have hn : H1 (hp.objs.size + 1) = none := I1.hok.fresh hsz
  have hq := q1 (hp.objs.size + 1) hn
  have kk : ∀ b o, hp.get? b = some o → ((hp.push (PySem.W.kdv_tup us)).push (PySem.HandSPX.excO C hp.objs.size)).get? b = some o := fun b o e => Heap.get?_push_of_some _ (Heap.get?_push_of_some _ e)
  have hget : ((hp.push (PySem.W.kdv_tup us)).push (PySem.HandSPX.excO C hp.objs.size)).get? (hp.objs.size + 1) = some (PySem.HandSPX.excO C hp.objs.size) := by heap_get
  have I2 : Inv X pins σ (upd H1 (hp.objs.size + 1) (exo (hp.objs.size + 1) C none)) ⟨(hp.push (PySem.W.kdv_tup us)).push (PySem.HandSPX.excO C hp.objs.size), g, dr, tk, os⟩ :=
    I1.laid (t' := tk) (a := hp.objs.size + 1) (o := exo (hp.objs.size + 1) C none) (h' := (hp.push (PySem.W.kdv_tup us)).push (PySem.HandSPX.excO C hp.objs.size)) kk hsz (exo_ok hget)
  have r2 : Vals (V.ref (hp.objs.size + 1) :: (vs ++ dvs)) (Value.ref (hp.objs.size + 1) :: (us ++ ds)) := .cons rfl (r1.append hd)
  have hl : (Value.ref (hp.objs.size + 1) :: us ++ ds).length = ps.length := by
    have e := r2.length
    rw [F1.len _ _ _ _ hq] at e
    exact e.symm
  have hus : us.length ≤ sizeLine := by
    rw [← Paired.length r1, sizeLine_eq]
    omega
  refine wpAny_call (PySem.HandSPX.call_own PySem.F.excBase_Exception (fun Y => refsEX_contains Y bm hbm) (I1.kIn _ _ hC) (PySem.W.looks_findIn I1.kIn iC) (fun self => PySem.W.bind_fn I1.kIn self tI) hus
    (codeAny_mono (F1.run _ X.stack _ _ ⟨Value.ref (hp.objs.size + 1) :: us, []⟩ (Value.ref (hp.objs.size + 1) :: (us ++ ds)) _ _ (fun _ _ _ => False) (hr.make C us []) (I2.env0.make C us []) (hb _ (Value.ref (hp.objs.size + 1) :: us) I2.kIn hl) r2 hq) fun r s' hq' => ?_))
  cases r with
  | error er => exact hx pins σ _ _ er s' I2 hq'
  | ok fl =>
    cases fl with
    | ret u =>
      obtain ⟨v, H2, os2, bare2, un2, hok2, rv, ev, d, fs, ea, ed, hd1, q2⟩ := hq'
      subst ev
      obtain ⟨h2, g2, d2, t2, os'⟩ := s'
      exact ⟨rv, mk_end (raises_own T.exC T.tyC) I1 hsz kk un2 hok2 os2 bare2 ea ed hd1 q2⟩
    | next => exact False.elim hq'
    | brk => exact False.elim hq'
    | cont => exact False.elim hq'
end
/-- what __init__ promises: its argument is kept as f -/
def spXi (K : PySem.W.Frag) (C : Addr) (f : Str) : Sp := fun vs H Q _ => ∃ (a : Addr) (y : V), vs = [.ref a, y] ∧ OexE K C ∧ PySem.W.findIn K (.ref C) f = some none ∧ H a = some (exo a C none) ∧ ∀ dx, H dx = none → dx ≠ a → Q .non (upd (upd H dx (exd dx [(f, y)])) a (exo a C (some dx)))
/-- C(e) is an exception that keeps e as f -/
structure CalX (P : Program) (w : World) (K : PySem.W.Frag) (mg : Str → Option Value) (base : Heap) (G : Str → Addr) (c f : Str) : Prop where
  oe : OexE K (G c)
  no : PySem.W.findIn K (.ref (G c)) f = some none
  hm : mg c = some (.ref (G c))
  ex : ∃ f0 fd, PySem.W.findIn K (.ref (G c)) "__init__" = some (some (.ref f0)) ∧ PySem.W.typeIn K (.ref f0) = some (.type "function") ∧ FnOk P w K mg base CX0 1 f0 fd ["self", f] (spXi K (G c) f) ∧ Binds K fd ["self", f] []
def sRaise (c f : Str) (fe : M D) : M Fl := M.bind fe fun v ρ s => .ex c [f] [v] ρ s
theorem ds_raise {X : Cx} {G : Str → Addr} {PV : List V} {W : WX} {e : Expr} {fe : M D} {c f : Str} {k : Nat} {p pos pos' : Pos} (C : CalX X.prog X.w X.K X.mg X.base G c f) (hc : X.calm = true) (tk : Takes X W) (hr : Room k X.A) (hk : 2 ≤ k) (he : PE X e (LD (pk X G) PV W fe))
    (hg : Gl X c := by rfl) (hdb : (c == ("__debug__" : Str)) = false := by decide) (hst : starEach [e] X.env = (false, eval e X.env) :: starEach [] X.env := by rfl) :
    PS X (.Raise (some (.Call (.Name c p) [e] [] pos)) none pos') (LS (pk X G) PV W (sRaise c f fe)) := by
  obtain ⟨f0, fd, h1, h2, Ff, hb⟩ := C.ex
  refine PSi (ps_raise hc tk (pmk_oexE (dvs := []) C.oe h1 h2 Ff (hr.mono hk) hb .nil pass0 hg C.hm (pa_cons he pa_nil hst) hdb hst (by rfl))) fun D σ H hq => ?_
  refine lds_bind hq fun z0 z1 v d h0 S0 x0 S1 r1 A1 => ?_
  refine ⟨by show 1 ≤ 1000; decide, fun a ha => ⟨a, v, rfl, C.oe, C.no, upd_same, fun dx hdx hne => ⟨rfl, dx, _, upd_same, by rw [upd_ne hne, upd_same], ?_, ?_⟩⟩⟩
  · rw [upd_ne hne] at hdx; exact hdx
  · have hd1 : z1.H dx = none := by rw [upd_ne hne] at hdx; exact hdx
    have eq : upd (del (upd (upd (upd z1.H a (exo a (G c) none)) dx (exd dx [(f, v)])) a (exo a (G c) (some dx))) a) dx (.xd [(f, v)]) = upd z1.H dx (.xd [(f, v)]) := by
      funext b
      by_cases hb : b = dx
      · rw [hb, upd_same, upd_same]
      · rw [upd_ne hb, upd_ne hb]
        by_cases hba : b = a
        · rw [hba, del_same, ha]
        · rw [del_ne hba, upd_ne hba, upd_ne hb, upd_ne hba]
    rw [eq]
    have kk := upd_keep (o := HO.xd [(f, v)]) hd1
    have S2 := S1.grow kk
    have x2 : EX σ z1 σ { z1 with H := upd z1.H dx (.xd [(f, v)]) } := EX.grow kk
    refine A1 σ z1.F _ z1.m (some dx) (x0.trans S0 x2) S2 (.inr ⟨dx, [v], rfl, rfl, upd_same, ?_, fun q => ?_, .cons r1 .nil⟩)
    · cases e : z1.F dx with
      | none => rfl
      | some u =>
        obtain ⟨o, ho⟩ := (S1.fz dx u e).some
        rw [hd1] at ho; cases ho
    · obtain ⟨o, ho⟩ := S1.mu_there q
      rw [hd1] at ho; cases ho
end DL
set_option Elab.async false
set_option linter.all false
set_option maxRecDepth 100000
set_option maxHeartbeats 4000000
/-! DL36: try with several clauses, each with or without a name. -/
namespace DL
open PySem PySem.Spec PyProof.Rows L2
abbrev HRow := Value × Option Nat × (Addr → Value → Option Addr → TS)
def setO (io : Option Nat) (σ : L2.St) (u : Option V) : L2.St := match io with
  | some i => σ.set i u
  | none => σ
def endO (io : Option Nat) (D : Ends) : Ends := { nx := fun σ H => D.nx (setO io σ none) H, rt := D.rt, bk := fun σ H => D.bk (setO io σ none) H, ct := fun σ H => D.ct (setO io σ none) H }
/-- what the clauses wish of an exception of the body, one after the other -/
def wNm (K : PySem.W.Frag) (Wout : WX) (D : Ends) : List HRow → WX
  | [] => Wout
  | (c, io, ts) :: r => fun cls d σ H => ∃ b, PySem.W.exmOne K cls c = some b ∧ (b = true → ∀ a, H a = none → ts a cls d (endO io D) (setO io σ (some (.ref a))) H) ∧ (b = false → wNm K Wout D r cls d σ H)
inductive HdsN (X : Cx) : List ExceptHandler → List HRow → Prop
  | nil : HdsN X [] []
  | plain {x : Str} {c : Value} {ts : Addr → Value → Option Addr → TS} {b₀ : Stmt} {suite : List Stmt} {np pos' : Pos} {hds : List ExceptHandler} {l : List HRow} (hc : Names X x c)
      (hsu : ∀ (a : Addr) (oe : Obj) (cls : Value) (d : Option Addr) (pn : List (Addr × Obj)), Zc cls d oe → (∃ vs, oe.data = .fields vs) → PSs (X.suite a ((a, oe) :: pn)) (b₀ :: suite) (ts a cls d)) (r : HdsN X hds l) :
      HdsN X (.ExceptHandler (some (.Name x np)) none (b₀ :: suite) pos' :: hds) ((c, none, ts) :: l)
  | named {x n : Str} {i : Nat} {c : Value} {ts : Addr → Value → Option Addr → TS} {b₀ : Stmt} {suite : List Stmt} {np pos' : Pos} {hds : List ExceptHandler} {l : List HRow} (hc : Names X x c) (hi : X.N[i]? = some n) (hln : X.env.kindOf n = some .local)
      (hsu : ∀ (a : Addr) (oe : Obj) (cls : Value) (d : Option Addr) (pn : List (Addr × Obj)), Zc cls d oe → (∃ vs, oe.data = .fields vs) → PSs (X.suite a ((a, oe) :: pn)) (b₀ :: suite) (ts a cls d)) (r : HdsN X hds l) :
      HdsN X (.ExceptHandler (some (.Name x np)) (some n) (b₀ :: suite) pos' :: hds) ((c, some i, ts) :: l)
section
variable {X : Cx} {body : List Stmt} {h₀ : ExceptHandler} {hds : List ExceptHandler} {l : List HRow} {pos : Pos} {tb : WX → TS} {Wout : WX}
theorem ps_try_nm (hs : X.stack = X.env :: X.outer) (hf : X.env.frame = some X.env.locals) (hN : X.N.Nodup) (tk : Takes X Wout)
    (hb : ∀ (W : WX) (pn : List (Addr × Obj)) (xe : Value → Shared → Prop), Takes (X.tr pn xe) W → PassesOwn (model X.prog X.w) X.A X.env xe → PSs (X.tr pn xe) body (tb W))
    (hh : HdsN X (h₀ :: hds) l) : PS X (.Try body (h₀ :: hds) [] [] pos) (fun D σ H => tb (wNm X.K Wout D l) D σ H) := by
  refine ⟨fun pins s σ H D I h => ?_⟩
  have ok := I.ok
  have hfr : X.A.frames = some (X.env :: X.outer) := by rw [ok.frames, hs]
  refine wpAny_Try_except ?_
  refine wpAny_mono ((hb (wNm X.K Wout D l) (X.pn ++ pins) (fun e s₁ => wpAny (model X.prog X.w) X.A (noteFrame e X.env) (fun _ s₂ => wpAny (model X.prog X.w) X.A (setFlight e none) (fun _ s₃ =>
    wpAny (model X.prog X.w) X.A (handleBy e X.env (h₀ :: hds)) (SP X pins D) X.xe s₃) X.xe s₂) X.xe s₁) (fun u s' xx => ?_) PassesOwn.looking).run [] s σ H D (I.toTry _) h) (fun f s1 hsp => ?_) (fun e s1 he => he)
  · -- the catch
    obtain ⟨a, B, sI, pins', σ', H', cls, d, rfl, J', nb, up, sky, na, os, ag, w⟩ := xx
    have J : Inv X pins σ' H' sI := J'.ofTry ok
    have sky' : Sky B (X.env :: X.outer) a (Zc cls d) X.env.locals s'.heap := by rw [← hs]; exact sky
    show wpAny (model X.prog X.w) X.A (noteFrame (.ref a) X.env) _ _ _
    refine Sky.land Zc.steady hfr hf sky' fun h3 fl3 up3 => ?_
    have J3 : Inv X pins σ' H' { s' with heap := h3 } := J.landed nb fl3.1 (up.trans up3) os ag
    obtain ⟨oe3, vs3, he3, hz3, hd3⟩ := fl3.there
    have notFr : ∀ {h : Heap} {o : Obj} {vs : Array Value}, h.FunFrames B (X.env :: X.outer) → h.get? a = some o → o.data = .fields vs → a ∉ frs (X.env :: X.outer) := fun {h o vs} ff e dd hm => by
      obtain ⟨_, o', e', hnf⟩ := ff.mem hm
      rw [e] at e'; cases e'
      exact hnf _ dd
    have nfr := notFr fl3.2.2.1 he3 hd3
    have nL : a ≠ X.env.locals := fun z => nfr (List.mem_filterMap.mpr ⟨X.env, List.mem_cons_self, by rw [hf, z]⟩)
    have nF : a ∉ X.fs := fun hm => by
      obtain ⟨e, he, q⟩ := List.mem_filterMap.mp hm
      exact nfr (List.mem_filterMap.mpr ⟨e, List.mem_cons_of_mem _ he, q⟩)
    have S3 := J3.suite he3 hd3 na nL nF
    have go : ∀ {hds' : List ExceptHandler} {l' : List HRow}, HdsN X hds' l' → wNm X.K Wout D l' cls d σ' H' →
        wpAny (model X.prog X.w) X.A (handleBy (.ref a) X.env hds') (SP X pins D) X.xe { s' with heap := h3 } := by
      intro hds' l' hk
      induction hk with
      | nil =>
        intro w
        refine wpAny_handleBy_nil ?_
        obtain ⟨k1, k2, k3, oe, vs, T, oT, ts', he, hz, hd, h1, hr⟩ := id fl3
        unfold PySem.passOn
        refine wpAny_bind (wpAny_field he hd h1 ?_)
        rw [if_neg (show ¬ ((Value.ref T == Value.none) = true) from by simp)]
        have fin : wpAny (model X.prog X.w) X.A (setFlight (.ref a) X.env.frame) (fun _ s4 => wpAny (model X.prog X.w) X.A (throw (.ref a) : Sem Flow) (SP X pins D) X.xe s4) X.xe { s' with heap := h3 } := by
          rw [hf]
          refine HandSPX.setFlight_upZ fl3 fun h4 hh4 up4 => wpAny_throw (tk _ _ ?_)
          exact ⟨a, B, sI, pins, σ', H', cls, d, rfl, J, nb, (up.trans up3).trans up4, .inr (.inr (by rw [hs]; exact hh4)), na, os, ag, w⟩
        first
          | exact wpAny_bind (wpAny_pure (wpAny_bind fin))
          | exact wpAny_bind fin
      | @plain x c ts b₀ suite np pos' hds2 l2 hc hsu r ih =>
        intro w
        obtain ⟨b, hb1, hyes, hno⟩ := w
        refine wpAny_handleBy_cons (codeAny_handlers_test ?_) (by intro q; cases q)
        have LT : PySem.W.Looks (model X.prog X.w) h3 (typeOf (.ref a)) cls := fun A Q E s k q => wpAny_typeOf_ref (k _ _ he3) (by rw [hz3.1]; exact q)
        have LM := PySem.W.exm_one (M := model X.prog X.w) (J3.kIn) LT hb1
        have test : ∀ {Q : Value → Shared → Prop} {E : Value → Shared → Prop}, Q c { s' with heap := h3 } → wpAny (model X.prog X.w) (X.A.mark (some (.ref a))) (eval (.Name x np) X.env) Q E { s' with heap := h3 } := fun {Q E} q => by
          obtain ⟨hg, hdbg, hm | ⟨hm, hv, hnn⟩⟩ := hc
          · exact ld_glob (X := X.suite a ((a, oe3) :: (X.pn ++ pins))) S3 hg hm q hdbg
          · exact ld_blt (X := X.suite a ((a, oe3) :: (X.pn ++ pins))) S3 hg hm hv q hnn hdbg
        refine test (LM.here ?_)
        cases b with
        | true =>
          refine codeAny_handlers_suite ?_
          refine HandSPX.lands_againZ fl3 fun h4 fl4 up4 => ?_
          have J4 : Inv X pins σ' H' { s' with heap := h4 } := J.landed nb fl4.1 ((up.trans up3).trans up4) os ag
          obtain ⟨oe4, vs4, he4, hz4, hd4⟩ := fl4.there
          have S4 := J4.suite he4 hd4 na nL nF
          refine wpAny_mono ((hsu a oe4 cls d (X.pn ++ pins) hz4 ⟨_, hd4⟩).run [] _ _ H' _ S4 (hyes rfl a na)) (fun f s6 hsp => ?_) (fun _ _ z => False.elim z)
          cases f with
          | next =>
            obtain ⟨σ6, H6, S6, q6⟩ := hsp
            exact ⟨_, _, S6.unsuite ok, q6⟩
          | brk =>
            obtain ⟨σ6, H6, S6, q6⟩ := hsp
            exact ⟨_, _, S6.unsuite ok, q6⟩
          | cont =>
            obtain ⟨σ6, H6, S6, q6⟩ := hsp
            exact ⟨_, _, S6.unsuite ok, q6⟩
          | ret u =>
            obtain ⟨v6, σ6, H6, S6, r6, q6⟩ := hsp
            exact ⟨_, _, _, S6.unsuite ok, r6, q6⟩
        | false =>
          show wpAny _ X.A (handleBy (.ref a) X.env hds2) _ _ _
          exact ih (hno rfl)
      | @named x n i c ts b₀ suite np pos' hds2 l2 hc hi hln hsu r ih =>
        intro w
        obtain ⟨b, hb1, hyes, hno⟩ := w
        refine wpAny_handleBy_cons (codeAny_handlers_test ?_) (by intro q; cases q)
        have LT : PySem.W.Looks (model X.prog X.w) h3 (typeOf (.ref a)) cls := fun A Q E s k q => wpAny_typeOf_ref (k _ _ he3) (by rw [hz3.1]; exact q)
        have LM := PySem.W.exm_one (M := model X.prog X.w) (J3.kIn) LT hb1
        have test : ∀ {Q : Value → Shared → Prop} {E : Value → Shared → Prop}, Q c { s' with heap := h3 } → wpAny (model X.prog X.w) (X.A.mark (some (.ref a))) (eval (.Name x np) X.env) Q E { s' with heap := h3 } := fun {Q E} q => by
          obtain ⟨hg, hdbg, hm | ⟨hm, hv, hnn⟩⟩ := hc
          · exact ld_glob (X := X.suite a ((a, oe3) :: (X.pn ++ pins))) S3 hg hm q hdbg
          · exact ld_blt (X := X.suite a ((a, oe3) :: (X.pn ++ pins))) S3 hg hm hv q hnn hdbg
        refine test (LM.here ?_)
        cases b with
        | true =>
          refine codeAny_handlers_suite_as ?_
          refine HandSPX.lands_againZ fl3 fun h4 fl4 up4 => ?_
          have J4 : Inv X pins σ' H' { s' with heap := h4 } := J.landed nb fl4.1 ((up.trans up3).trans up4) os ag
          obtain ⟨oe4, vs4, he4, hz4, hd4⟩ := fl4.there
          have S4 := J4.suite he4 hd4 na nL nF
          have hloc : Loc X.env.scope n := .inl hln
          refine store_ok (X := X.suite a ((a, oe4) :: (X.pn ++ pins))) (v := .ref a) S4 hN hi hloc rfl (fun s5 S5 => ?_) (.inr hln)
          refine wpAny_mono ((hsu a oe4 cls d (X.pn ++ pins) hz4 ⟨_, hd4⟩).run [] s5 _ H' _ S5 (hyes rfl a na)) (fun f s6 hsp => ?_) (fun _ _ z => False.elim z)
          have end_ : ∀ {σ6 : L2.St} {H6 : Hp} {Q : Shared → Prop}, Inv (X.suite a ((a, oe4) :: (X.pn ++ pins))) [] σ6 H6 s6 → (∀ s7, Inv X pins (σ6.set i none) H6 s7 → Q s7) →
              wpAny (model X.prog X.w) X.A (do bindName X.env n .none; unbindBehindTheSuite X.env n pos') (fun _ s7 => Q s7) X.xe s6 := fun {σ6 H6 Q} S6 hq => gone_ok (S6.unsuite ok) hN hi hln hq
          cases f with
          | next =>
            obtain ⟨σ6, H6, S6, q6⟩ := hsp
            exact end_ S6 fun s7 J7 => ⟨_, _, J7, q6⟩
          | brk =>
            obtain ⟨σ6, H6, S6, q6⟩ := hsp
            exact end_ S6 fun s7 J7 => ⟨_, _, J7, q6⟩
          | cont =>
            obtain ⟨σ6, H6, S6, q6⟩ := hsp
            exact end_ S6 fun s7 J7 => ⟨_, _, J7, q6⟩
          | ret u =>
            obtain ⟨v6, σ6, H6, S6, r6, q6⟩ := hsp
            exact end_ S6 fun s7 J7 => ⟨_, _, _, J7, r6, q6⟩
        | false =>
          show wpAny _ X.A (handleBy (.ref a) X.env hds2) _ _ _
          exact ih (hno rfl)
    exact go hh w
  · cases f with
    | next =>
      obtain ⟨σ', H', J', q⟩ := hsp
      exact wpAny_execs_nil ⟨σ', H', J'.ofTry ok, q⟩
    | brk =>
      obtain ⟨σ', H', J', q⟩ := hsp
      exact ⟨σ', H', J'.ofTry ok, q⟩
    | cont =>
      obtain ⟨σ', H', J', q⟩ := hsp
      exact ⟨σ', H', J'.ofTry ok, q⟩
    | ret u =>
      obtain ⟨v, σ', H', J', r, q⟩ := hsp
      exact ⟨v, σ', H', J'.ofTry ok, r, q⟩
end
end DL
set_option Elab.async false
set_option linter.all false
set_option maxRecDepth 100000
set_option maxHeartbeats 4000000
/-! DL37: try, over meanings. -/
namespace DL
open PySem PySem.Spec PyProof.Rows L2
/-- a clause's suite: from the error's fields -/
abbrev Hd := List Str → List D → M Fl
abbrev HR := Str × Option Nat × Hd
def okSl (io : Option Nat) (ρ : List Sl) : Bool := match io with
  | none => true
  | some i => match ρ[i]? with
    | some .no => true
    | _ => false
def noLF : Fl → Bool
  | .rt e => noL e
  | _ => true
def hdRun (io : Option Nat) (f : M Fl) : M Fl := fun ρ s => if okSl io ρ = true then (match f ρ s with
  | .ok fl ρ' s' => if okSl io ρ' = true ∧ noLF fl = true then .ok fl ρ' s' else .no
  | _ => .no) else .no
def catches (c cn : Str) : Bool := c == cn || cn == "EarlierError"
def goH (xs : List Str) (c : Str) (ns : List Str) (vs : List D) : List HR → M Fl
  | [] => fun ρ s => .ex c ns vs ρ s
  | (cn, io, hd) :: r => if (("EarlierError" : Str) :: xs).contains cn = true then (if catches c cn = true then hdRun io (hd ns vs) else goH xs c ns vs r) else M.no
def sTry (xs : List Str) (f : M Fl) (hs : List HR) : M Fl := fun ρ s => match f ρ s with
  | .ex c ns vs ρ' s' => if xs.contains c = true then goH xs c ns vs hs ρ' s' else .no
  | r => r
section
variable {P : Par} {PV : List V} {σ σ' : L2.St} {z z' : Z} {i : Nat} {u : Option V} {a : Addr}
theorem ownN_set (h : z.ρ[i]? = some .no) {j : Nat} : OwnAt (σ.set i u) z j a ↔ OwnAt σ z j a := by
  have ne : (∃ c, z.ρ[j]? = some (.own c) ∨ z.ρ[j]? = some (.io c)) → i ≠ j := fun ⟨c, hc⟩ e => by
    subst e
    rw [h] at hc
    rcases hc with hc | hc <;> cases hc
  constructor
  · intro ⟨hc, e⟩
    rw [List.getElem?_set_ne (ne hc)] at e
    exact ⟨hc, e⟩
  · intro ⟨hc, e⟩
    exact ⟨hc, by rw [List.getElem?_set_ne (ne hc)]; exact e⟩
theorem muN_set (h : z.ρ[i]? = some .no) : Mu (σ.set i u) z a ↔ Mu σ z a := by
  constructor
  · rintro (q | ⟨j, q⟩)
    · exact .inl q
    · exact .inr ⟨j, (ownN_set h).mp q⟩
  · rintro (q | ⟨j, q⟩)
    · exact .inl q
    · exact .inr ⟨j, (ownN_set h).mpr q⟩
theorem SR.setNo (S : SR P PV σ z) (h : z.ρ[i]? = some .no) (u : Option V) : SR P PV (σ.set i u) z := by
  refine ⟨S.fz, S.len, S.nd, S.cl, fun j x e => ?_, fun j k a h1 h2 => S.sd j k a ((ownN_set h).mp h1) ((ownN_set h).mp h2), by rw [List.length_set]; exact S.ln⟩
  by_cases hj : i = j
  · subst hj
    rw [h] at e
    cases e
    exact True.intro
  · rw [List.getElem?_set_ne hj]
    exact S.sl j x e
theorem EX.setL (h : z.ρ[i]? = some .no) (x : EX (σ.set i u) z σ' z') : EX σ z σ' z' :=
  ⟨x.fs, x.mp, fun a o e m => x.oth a o e fun q => m ((muN_set h).mp q), fun a o e => (x.nw a o e).imp id (Or.imp id (muN_set h).mp), x.kp, fun a q => (x.mu a q).imp (muN_set h).mp id⟩
theorem EX.setR (h : z'.ρ[i]? = some .no) (x : EX σ z σ' z') : EX σ z (σ'.set i u) z' :=
  ⟨x.fs, x.mp, x.oth, x.nw, x.kp, fun a q => x.mu a ((muN_set h).mp q)⟩
theorem okSl_at (h : okSl (some i) z.ρ = true) : z.ρ[i]? = some .no := by
  unfold okSl at h
  cases e : z.ρ[i]? with
  | none => simp [e] at h
  | some x => cases x with
    | no => rfl
    | val d => simp [e] at h
    | own c => simp [e] at h
    | io c => simp [e] at h
variable {io : Option Nat}
theorem SR.setO (S : SR P PV σ z) (h : okSl io z.ρ = true) (u : Option V) : SR P PV (setO io σ u) z := by
  cases io with
  | none => exact S
  | some i => exact S.setNo (okSl_at h) u
theorem EX.setOL (h : okSl io z.ρ = true) (x : EX (setO io σ u) z σ' z') : EX σ z σ' z' := by
  cases io with
  | none => exact x
  | some i => exact x.setL (okSl_at h)
theorem EX.setOR (h : okSl io z'.ρ = true) (x : EX σ z σ' z') : EX σ z (setO io σ' u) z' := by
  cases io with
  | none => exact x
  | some i => exact x.setR (okSl_at h)
theorem muO (h : okSl io z.ρ = true) : Mu (setO io σ u) z a ↔ Mu σ z a := by
  cases io with
  | none => exact Iff.rfl
  | some i => exact muN_set (okSl_at h)
theorem XR.setO {ns : List Str} {vs : List D} {d : Option Addr} (h : okSl io z.ρ = true) (x : XR P σ z ns vs d) : XR P (setO io σ u) z ns vs d := by
  rcases x with x | ⟨dx, gv, e, hl, hx, hf, hm, r⟩
  · exact .inl x
  · exact .inr ⟨dx, gv, e, hl, hx, hf, fun q => hm ((muO h).mp q), r⟩
theorem FlOk.setO {H0 : Hp} {D : Ends} {fl : Fl} (h : okSl io z.ρ = true) (hl : noLF fl = true) (q : FlOk P (setO io σ none) z H0 D fl) : FlOk P σ z H0 (endO io D) fl := by
  cases fl with
  | nx => exact q
  | bk => exact q
  | ct => exact q
  | rt e =>
    intro v r
    refine q v ?_
    cases e with
    | v d => exact r
    | l k => cases hl
    | f c =>
      obtain ⟨b, e1, e2, e3, e4, e5⟩ := r
      exact ⟨b, e1, e2, fun y => e3 ((muO h).mp y), e4, e5⟩
end
/-- a clause's suite is met -/
def tsH (P : Par) (PV : List V) (xs : List Str) (io : Option Nat) (hd : Hd) (a : Addr) (cls : Value) (d : Option Addr) : TS := fun D σ H =>
  ∃ (z : Z) (ns : List Str) (vs : List DL.D), z.H = H ∧ SR P PV σ z ∧ XR P σ z ns vs d ∧ (∀ i, io = some i → σ[i]? = some (some (.ref a))) ∧ (∃ c, c ∈ xs ∧ cls = .ref (P.G c)) ∧ AccS P PV W0 σ z (hd ns vs z.ρ z.s) D
/-- what the text says of the errors -/
structure XsOk (K : PySem.W.Frag) (mg : Str → Option Value) (G : Str → Addr) (xs : List Str) : Prop where
  one : ∀ c ∈ xs, ∀ cn ∈ ("EarlierError" : Str) :: xs, PySem.W.exmOne K (.ref (G c)) (.ref (G cn)) = some (catches c cn)
  xf : ∀ c ∈ xs, XfC K (G c)
  mg : ∀ cn ∈ ("EarlierError" : Str) :: xs, mg cn = some (.ref (G cn))
def rowOf (P : Par) (PV : List V) (xs : List Str) (r : HR) : HRow := (.ref (P.G r.1), r.2.1, tsH P PV xs r.2.1 r.2.2)
section
variable {P : Par} {PV : List V} {Wout : WX} {σ σ' : L2.St} {z : Z} {D : Ends} {xs : List Str} {c : Str} {ns : List Str} {vs : List DL.D} {ρ' : List Sl} {s' : List Cl} {mg : Str → Option Value} {F H : Hp} {m : List Addr} {d : Option Addr}
theorem wNm_of (XO : XsOk P.K mg P.G xs) (hc : c ∈ xs) (S0 : SR P PV σ z) (x : EX σ z σ' ⟨F, H, m, ρ', s'⟩) (S : SR P PV σ' ⟨F, H, m, ρ', s'⟩) (q : XR P σ' ⟨F, H, m, ρ', s'⟩ ns vs d) :
    ∀ hs : List HR, AccS P PV Wout σ z (goH xs c ns vs hs ρ' s') D → wNm P.K Wout D (hs.map (rowOf P PV xs)) (.ref (P.G c)) d σ' H
  | [], A => A σ' F H m d x S q
  | (cn, io, hd) :: r, A => by
    unfold goH at A
    split at A
    · rename_i hcn
      have hcn' : cn ∈ ("EarlierError" : Str) :: xs := List.contains_iff_mem.mp hcn
      refine ⟨catches c cn, XO.one c hc cn hcn', fun hb => ?_, fun hb => ?_⟩
      · rw [if_pos hb] at A
        unfold hdRun at A
        split at A
        · rename_i ho
          intro a ha
          have S1 := S.setO (io := io) ho (some (.ref a))
          refine ⟨⟨F, H, m, ρ', s'⟩, ns, vs, rfl, S1, q.setO ho, fun i hi => ?_, ⟨c, hc, rfl⟩, ?_⟩
          · have hi' : io = some i := hi
            subst hi'
            have hlt : i < σ'.length := by
              have h1 := okSl_at (z := ⟨F, H, m, ρ', s'⟩) ho
              exact Nat.lt_of_lt_of_le (List.getElem?_eq_some_iff.mp h1).1 S.ln
            exact List.getElem?_set_self hlt
          · show AccS P PV W0 (setO io σ' (some (.ref a))) ⟨F, H, m, ρ', s'⟩ (hd ns vs ρ' s') (endO io D)
            cases hf : hd ns vs ρ' s' with
            | no => rw [hf] at A; exact A.elim
            | ex c2 ns2 vs2 ρ2 s2 => rw [hf] at A; exact A.elim
            | ok fl ρ2 s2 =>
              rw [hf] at A
              have A' : AccS P PV Wout σ z (if okSl io ρ2 = true ∧ noLF fl = true then .ok fl ρ2 s2 else .no) D := A
              by_cases h2 : okSl io ρ2 = true ∧ noLF fl = true
              · rw [if_pos h2] at A'
                intro σ2 F2 H2 m2 x2 S2
                have x3 : EX σ' ⟨F, H, m, ρ', s'⟩ σ2 ⟨F2, H2, m2, ρ2, s2⟩ := x2.setOL ho
                have x4 := x.trans S0 x3
                have x5 : EX σ z (setO io σ2 none) ⟨F2, H2, m2, ρ2, s2⟩ := x4.setOR (z' := ⟨F2, H2, m2, ρ2, s2⟩) h2.1
                exact FlOk.setO (z := ⟨F2, H2, m2, ρ2, s2⟩) h2.1 h2.2 ((A' _ F2 H2 m2 x5 (S2.setO (z := ⟨F2, H2, m2, ρ2, s2⟩) h2.1 none)).org fun _ y => x.kn y)
              · rw [if_neg h2] at A'; exact A'.elim
        · exact A.elim
      · rw [if_neg (by rw [hb]; exact Bool.false_ne_true)] at A
        exact wNm_of XO hc S0 x S q r A
    · exact A.elim
end
inductive HdsD (X : Cx) (G : Str → Addr) (PV : List V) (xs : List Str) : List ExceptHandler → List HR → Prop
  | nil : HdsD X G PV xs [] []
  | plain {x : Str} {hd : Hd} {b₀ : Stmt} {suite : List Stmt} {np pos' : Pos} {hds : List ExceptHandler} {l : List HR} (hx : x ∈ ("EarlierError" : Str) :: xs) (hg : Gl X x) (hdb : (x == ("__debug__" : Str)) = false)
      (hsu : ∀ (a : Addr) (oe : Obj) (cls : Value) (d : Option Addr) (pn : List (Addr × Obj)), Zc cls d oe → (∃ vs, oe.data = .fields vs) → PSs (X.suite a ((a, oe) :: pn)) (b₀ :: suite) (tsH (pk X G) PV xs none hd a cls d)) (r : HdsD X G PV xs hds l) :
      HdsD X G PV xs (.ExceptHandler (some (.Name x np)) none (b₀ :: suite) pos' :: hds) ((x, none, hd) :: l)
  | named {x n : Str} {i : Nat} {hd : Hd} {b₀ : Stmt} {suite : List Stmt} {np pos' : Pos} {hds : List ExceptHandler} {l : List HR} (hx : x ∈ ("EarlierError" : Str) :: xs) (hg : Gl X x) (hdb : (x == ("__debug__" : Str)) = false) (hi : X.N[i]? = some n) (hln : X.env.kindOf n = some .local)
      (hsu : ∀ (a : Addr) (oe : Obj) (cls : Value) (d : Option Addr) (pn : List (Addr × Obj)), Zc cls d oe → (∃ vs, oe.data = .fields vs) → PSs (X.suite a ((a, oe) :: pn)) (b₀ :: suite) (tsH (pk X G) PV xs (some i) hd a cls d)) (r : HdsD X G PV xs hds l) :
      HdsD X G PV xs (.ExceptHandler (some (.Name x np)) (some n) (b₀ :: suite) pos' :: hds) ((x, some i, hd) :: l)
theorem HdsD.nm {X : Cx} {G : Str → Addr} {PV : List V} {xs : List Str} (XO : XsOk X.K X.mg G xs) {hds : List ExceptHandler} {l : List HR} (h : HdsD X G PV xs hds l) : HdsN X hds (l.map (rowOf (pk X G) PV xs)) := by
  induction h with
  | nil => exact .nil
  | plain hx hg hdb hsu r ih => exact .plain ⟨hg, hdb, .inl (XO.mg _ hx)⟩ hsu ih
  | named hx hg hdb hi hln hsu r ih => exact .named ⟨hg, hdb, .inl (XO.mg _ hx)⟩ hi hln hsu ih
theorem ds_try {X : Cx} {G : Str → Addr} {PV : List V} {Wout : WX} {xs : List Str} {body : List Stmt} {h₀ : ExceptHandler} {hds : List ExceptHandler} {l : List HR} {pos : Pos} {fb : M Fl} (XO : XsOk X.K X.mg G xs) (hs : X.stack = X.env :: X.outer) (hf : X.env.frame = some X.env.locals) (hN : X.N.Nodup) (tk : Takes X Wout)
    (hb : ∀ (W : WX) (pn : List (Addr × Obj)) (xe : Value → Shared → Prop), Takes (X.tr pn xe) W → PassesOwn (model X.prog X.w) X.A X.env xe → PSs (X.tr pn xe) body (LS (pk X G) PV W fb))
    (hh : HdsD X G PV xs (h₀ :: hds) l) : PS X (.Try body (h₀ :: hds) [] [] pos) (LS (pk X G) PV Wout (sTry xs fb l)) :=
  PSi (ps_try_nm hs hf hN tk hb (hh.nm XO)) fun D σ H ⟨z, e, S, A⟩ => by
    subst e
    refine ⟨z, rfl, S, ?_⟩
    unfold sTry at A
    cases hfb : fb z.ρ z.s with
    | no => rw [hfb] at A; exact A.elim
    | ok fl ρ s => rw [hfb] at A; exact A
    | ex c ns vs ρ s =>
      rw [hfb] at A
      intro σ' F H' m d x S' q
      have A' : AccS (pk X G) PV Wout σ z (if xs.contains c = true then goH xs c ns vs l ρ s else .no) D := A
      by_cases hc : xs.contains c = true
      · rw [if_pos hc] at A'
        exact wNm_of (P := pk X G) XO (List.contains_iff_mem.mp hc) S x S' q l A'
      · rw [if_neg hc] at A'; exact A'.elim
end DL
set_option Elab.async false
set_option linter.all false
set_option maxRecDepth 100000
set_option maxHeartbeats 4000000
/-! DL38: the suites of except clauses; an error's __init__. -/
namespace DL
open PySem PySem.Spec PyProof.Rows L2
/-- an item of the list that a clause returns -/
inductive HI | str (x : Str) | int (n : Int) | bl (b : Bool) | fld (f : Str)
def itDat (ns : List Str) (vs : List D) : HI → Option D
  | .str x => some (.str x)
  | .int n => some (.int n)
  | .bl b => some (.bl b)
  | .fld f => (ns.zip vs).lookup f
def itV (fs : List (Str × V)) : HI → Option V
  | .str x => some (.str x)
  | .int n => some (.int n)
  | .bl b => some (.bl b)
  | .fld f => fs.lookup f
/-- return [..] -/
def hdL (its : List HI) : Hd := fun ns vs => match mapO (itDat ns vs) its with
  | some ds => if ds.length ≤ sizeLine then M.pure (.rt (.f (.lst ds))) else M.no
  | none => M.no
theorem zip_rep {P : Par} {F : Hp} {m : List Addr} {f : Str} {d : D} : ∀ {ns : List Str} {gv : List V} {vs : List D}, ns.length = gv.length → RepL P F m gv vs → (ns.zip vs).lookup f = some d → ∃ v, (ns.zip gv).lookup f = some v ∧ Rep P F m v d := by
  intro ns
  induction ns with
  | nil => intro gv vs _ _ h; cases h
  | cons n ns ih =>
    intro gv vs hl r h
    cases r with
    | nil => cases hl
    | @cons v d0 gv vs r t =>
      rw [List.zip_cons_cons, List.lookup_cons] at h ⊢
      cases e : (f == n) with
      | true => rw [e] at h; cases h; exact ⟨v, rfl, r⟩
      | false => rw [e] at h; exact ih (by simpa using hl) t h
theorem itV_of {P : Par} {F : Hp} {m : List Addr} {ns : List Str} {gv : List V} {vs : List D} (hl : ns.length = gv.length) (r : RepL P F m gv vs) : ∀ {its : List HI} {ds : List D}, mapO (itDat ns vs) its = some ds → ∃ us, mapO (itV (ns.zip gv)) its = some us ∧ RepL P F m us ds
  | [], _, h => by cases h; exact ⟨[], rfl, .nil⟩
  | it :: its, ds, h => by
    unfold mapO at h
    cases e1 : itDat ns vs it with
    | none => rw [e1] at h; cases h
    | some d =>
      cases e2 : mapO (itDat ns vs) its with
      | none => rw [e1, e2] at h; cases h
      | some ds' =>
        rw [e1, e2] at h
        cases h
        obtain ⟨us, h1, h2⟩ := itV_of hl r e2
        have key : ∃ v, itV (ns.zip gv) it = some v ∧ Rep P F m v d := by
          cases it with
          | str x => cases e1; exact ⟨_, rfl, .str _⟩
          | int x => cases e1; exact ⟨_, rfl, .int _⟩
          | bl x => cases e1; exact ⟨_, rfl, .bl _⟩
          | fld f => exact zip_rep hl r e1
        obtain ⟨v, h3, h4⟩ := key
        exact ⟨v :: us, by unfold mapO; rw [h3, h1], .cons h4 h2⟩
/-- the reading of such items, in a suite -/
def tHI (G : Str → Addr) (xs : List Str) (i : Nat) (a : Addr) (cls : Value) (d : Option Addr) (its : List HI) : TA := fun σ H Q => σ[i]? = some (some (.ref a)) ∧ (∃ c, c ∈ xs ∧ cls = .ref (G c)) ∧ (∀ dd, d = some dd → ∃ fs, H dd = some (.xd fs)) ∧
  ∃ (fs : List (Str × V)) (us : List V), (∀ f v, fs.lookup f = some v → ∃ dd, d = some dd ∧ H dd = some (.xd fs)) ∧ mapO (itV fs) its = some us ∧ Q us H
theorem mapO_cons {α β : Type} {f : α → Option β} {x : α} {xs : List α} {ys : List β} (h : mapO f (x :: xs) = some ys) : ∃ y zs, f x = some y ∧ mapO f xs = some zs ∧ ys = y :: zs := by
  unfold mapO at h
  split at h
  · cases h; exact ⟨_, _, by assumption, by assumption, rfl⟩
  · cases h
section
variable {X : Cx} {G : Str → Addr} {PV : List V} {xs : List Str} {i : Nat} {a : Addr} {oe : Obj} {cls : Value} {d : Option Addr} {pn : List (Addr × Obj)} {es : List Expr} {its : List HI} {n : Str} {f : Str} {pos p : Pos} {b : List Stmt} {hf : M Fl} {io : Option Nat}
/-- a suite that does not look at the error -/
theorem hs_plain {fm : M Fl} (h : PSs (X.suite a ((a, oe) :: pn)) b (LS (pk X G) PV W0 fm)) : PSs (X.suite a ((a, oe) :: pn)) b (tsH (pk X G) PV xs io (fun _ _ => fm) a cls d) :=
  PSsi h fun D σ H ⟨z, ns, vs, e, S, q, _, _, A⟩ => ⟨z, e, S, A⟩
theorem ph_nil : PA (X.suite a ((a, oe) :: pn)) [] (tHI G xs i a cls d []) := PAi pa_nil fun σ H Q ⟨h1, h2, h0, fs, us, h3, h4, q⟩ => by
  cases h4
  exact q
theorem ph_cons {it : HI} {e : Expr} {te : TE} (he : PE (X.suite a ((a, oe) :: pn)) e te) (hte : ∀ σ H (Q : VK), σ[i]? = some (some (V.ref a)) → (∃ c, c ∈ xs ∧ cls = .ref (G c)) → (∀ dd, d = some dd → ∃ fs, H dd = some (.xd fs)) → ∀ (fs : List (Str × V)) (u : V), (∀ f v, fs.lookup f = some v → ∃ dd, d = some dd ∧ H dd = some (.xd fs)) → itV fs it = some u → Q u H → te σ H Q)
    (hr : PA (X.suite a ((a, oe) :: pn)) es (tHI G xs i a cls d its)) (hs : starEach (e :: es) (X.suite a ((a, oe) :: pn)).env = (false, eval e (X.suite a ((a, oe) :: pn)).env) :: starEach es (X.suite a ((a, oe) :: pn)).env := by rfl) :
    PA (X.suite a ((a, oe) :: pn)) (e :: es) (tHI G xs i a cls d (it :: its)) :=
  PAi (pa_cons he hr hs) fun σ H Q ⟨h1, h2, h0, fs, us, h3, h4, q⟩ => by
    obtain ⟨y, zs, e1, e2, rfl⟩ := mapO_cons h4
    exact hte σ H _ h1 h2 h0 fs y h3 e1 ⟨h1, h2, h0, fs, zs, h3, e2, q⟩
theorem ph_str {x : Str} {j : Nat} (hr : PA (X.suite a ((a, oe) :: pn)) es (tHI G xs i a cls d its)) (hs : starEach (Expr.Constant (.str x) j p :: es) (X.suite a ((a, oe) :: pn)).env = (false, eval (Expr.Constant (.str x) j p) (X.suite a ((a, oe) :: pn)).env) :: starEach es (X.suite a ((a, oe) :: pn)).env := by rfl) :
    PA (X.suite a ((a, oe) :: pn)) (Expr.Constant (.str x) j p :: es) (tHI G xs i a cls d (.str x :: its)) :=
  ph_cons pe_str (fun σ H Q _ _ _ fs u _ e q => by cases e; exact q) hr hs
/-- e.f -/
theorem pe_fldx (XO : XsOk X.K X.mg G xs) (hno : ∀ c ∈ xs, PySem.W.findIn X.K (.ref (G c)) f = some none) (hz : Zc cls d oe) (hfl : ∃ vs, oe.data = .fields vs) (he : PE (X.suite a ((a, oe) :: pn)) (.Name n p) (tVar i)) (hb : attributeBase (.Name n p) f X.env (eval (.Name n p) X.env) = eval (.Name n p) X.env := by rfl) :
    PE (X.suite a ((a, oe) :: pn)) (.Attribute (.Name n p) f pos) (fun σ H Q => σ[i]? = some (some (V.ref a)) ∧ (∃ c, c ∈ xs ∧ cls = .ref (G c)) ∧ ∃ dd fs v, d = some dd ∧ H dd = some (.xd fs) ∧ fs.lookup f = some v ∧ Q v H) := by
  refine ⟨fun pins s σ H Q I h => ?_⟩
  obtain ⟨h1, ⟨c, hc, rfl⟩, dd, fs, v, e1, e2, e3, q⟩ := h
  exact (pe_xf (XO.xf c hc) (hno c hc) hz hfl he hb).run pins s σ H Q I ⟨.ref a, h1, rfl, rfl, dd, fs, v, e1, e2, e3, q⟩
theorem ph_fld (XO : XsOk X.K X.mg G xs) (hno : ∀ c ∈ xs, PySem.W.findIn X.K (.ref (G c)) f = some none) (hz : Zc cls d oe) (hfl : ∃ vs, oe.data = .fields vs) (he : PE (X.suite a ((a, oe) :: pn)) (.Name n p) (tVar i))
    (hr : PA (X.suite a ((a, oe) :: pn)) es (tHI G xs i a cls d its)) (hb : attributeBase (.Name n p) f X.env (eval (.Name n p) X.env) = eval (.Name n p) X.env := by rfl)
    (hs : starEach (Expr.Attribute (.Name n p) f pos :: es) (X.suite a ((a, oe) :: pn)).env = (false, eval (Expr.Attribute (.Name n p) f pos) (X.suite a ((a, oe) :: pn)).env) :: starEach es (X.suite a ((a, oe) :: pn)).env := by rfl) :
    PA (X.suite a ((a, oe) :: pn)) (Expr.Attribute (.Name n p) f pos :: es) (tHI G xs i a cls d (.fld f :: its)) :=
  ph_cons (pe_fldx XO hno hz hfl he hb) (fun σ H Q h1 h2 h0 fs u h3 e q => by
    have e' : fs.lookup f = some u := e
    obtain ⟨dd, e2, e3⟩ := h3 f u e'
    exact ⟨h1, h2, dd, fs, u, e2, e3, e', q⟩) hr hs
theorem hs_list (h : PA (X.suite a ((a, oe) :: pn)) es (tHI G xs i a cls d its)) : PSs (X.suite a ((a, oe) :: pn)) [.Return (some (.List es p)) pos] (tsH (pk X G) PV xs (some i) (hdL its) a cls d) :=
  PSsi (pss_one (ps_ret (pe_lst h))) fun D σ H ⟨z, ns, vs, e, S, q, hi, hc, A⟩ => by
    subst e
    have key : ∃ gv, ns.length = gv.length ∧ RepL (pk X G) z.F z.m gv vs ∧ (∀ f v, (ns.zip gv).lookup f = some v → ∃ dd, d = some dd ∧ z.H dd = some (.xd (ns.zip gv))) ∧ ∀ dd, d = some dd → ∃ fs, z.H dd = some (.xd fs) := by
      rcases q with ⟨rfl, rfl, rfl⟩ | ⟨dx, gv, e, hl, hx, _, _, r⟩
      · exact ⟨[], rfl, .nil, fun f v h => (by cases h), fun dd h => (by cases h)⟩
      · exact ⟨gv, hl, r, fun f v _ => ⟨dx, e, hx⟩, fun dd h => (by rw [e] at h; cases h; exact ⟨_, hx⟩)⟩
    obtain ⟨gv, hl, r, hk, h0⟩ := key
    unfold hdL at A
    cases hm : mapO (itDat ns vs) its with
    | none => rw [hm] at A; exact A.elim
    | some ds =>
      rw [hm] at A
      have A' : AccS (pk X G) PV W0 σ z ((if ds.length ≤ sizeLine then M.pure (.rt (.f (.lst ds))) else M.no : M Fl) z.ρ z.s) D := A
      by_cases hz : ds.length ≤ sizeLine
      · rw [if_pos hz] at A'
        obtain ⟨us, h1, h2⟩ := itV_of hl r hm
        refine ⟨hi i rfl, hc, h0, ns.zip gv, us, hk, h1, by rw [h2.length]; exact hz, fun p hp => ?_⟩
        have A2 : Acc (pk X G) PV W0 σ z (erel (pk X G) σ z.H) (.ok (.f (.lst ds)) z.ρ z.s) D.rt := fun b F H m x S' r => A' σ F H m x S' b r
        exact acc_newL S hp h2 A2
      · rw [if_neg hz] at A'; exact A'.elim
end
/-- an error by the promise of its __init__ -/
theorem CalX.of {P : Program} {w : World} {K : PySem.W.Frag} {mg : Str → Option Value} {base : Heap} {G : Str → Addr} {c f : Str} {fa : Addr} {fd : FuncData} (oe : OexE K (G c)) (no : PySem.W.findIn K (.ref (G c)) f = some none) (hm : mg c = some (.ref (G c)))
    (iC : PySem.W.findIn K (.ref (G c)) "__init__" = some (some (.ref fa))) (tI : PySem.W.typeIn K (.ref fa) = some (.type "function")) (F : FnOk P w K mg base CX0 1 fa fd ["self", f] (spXi K (G c) f)) (hb : Binds K fd ["self", f] []) : CalX P w K mg base G c f :=
  ⟨oe, no, hm, fa, fd, iC, tI, F, hb⟩
theorem spXi_len {K : PySem.W.Frag} {C : Addr} {f : Str} {vs : List V} {H : Hp} {Q : VK} {E : XK} (h : spXi K C f vs H Q E) : vs.length = 2 := by
  obtain ⟨a, y, rfl, _⟩ := h
  rfl
end DL
set_option Elab.async false
set_option linter.all false
set_option maxRecDepth 100000
set_option maxHeartbeats 4000000
/-! DL39: calls with keywords alone. -/
namespace DL
open PySem L2 PySem.Spec PyProof.Rows
def pick {α : Type} (ix : List Nat) (xs : List α) : List α := ix.filterMap fun i => xs[i]?
def noF : E → Bool
  | .f _ => false
  | _ => true
/-- the written values, in the parameters' order -/
def pickM (ix : List Nat) (m : Nat) (es : List E) : M (List E) := if es.all noF = true ∧ es.length = m then M.pure (pick ix es) else M.no
theorem Vals.pick {ix : List Nat} {vs : List V} {us : List Value} (r : Vals vs us) : Vals (pick ix vs) (pick ix us) := by
  induction ix with
  | nil => exact .nil
  | cons i ix ih =>
    show Vals ((i :: ix).filterMap fun i => vs[i]?) ((i :: ix).filterMap fun i => us[i]?)
    rw [List.filterMap_cons, List.filterMap_cons]
    cases e : vs[i]? with
    | none =>
      have e2 : us[i]? = none := by
        rw [List.getElem?_eq_none_iff] at e ⊢
        rw [← r.length]; exact e
      rw [e2]
      exact ih
    | some v =>
      obtain ⟨u, e2, r2⟩ := r.get e
      rw [e2]
      exact .cons r2 ih
theorem ERs.at_ {P : Par} {σ : L2.St} {z : Z} {H0 : Hp} : ∀ {vs : List V} {es : List E}, ERs P σ z H0 vs es → ∀ (i : Nat) v, vs[i]? = some v → ∃ e, es[i]? = some e ∧ ER P σ z H0 v e
  | _, _, .nil, i, v, h => by simp at h
  | _, _, .cons r _ l, 0, v, h => by simp at h; subst h; exact ⟨_, rfl, r⟩
  | _, _, .cons r _ l, i + 1, v, h => l.at_ i v (by simpa using h)
theorem ERs.pick {P : Par} {σ : L2.St} {z : Z} {H0 : Hp} {vs : List V} {es : List E} (l : ERs P σ z H0 vs es) (h : es.all noF = true) : ∀ ix : List Nat, ERs P σ z H0 (pick ix vs) (pick ix es)
  | [] => .nil
  | i :: ix => by
    show ERs P σ z H0 ((i :: ix).filterMap fun i => vs[i]?) ((i :: ix).filterMap fun i => es[i]?)
    rw [List.filterMap_cons, List.filterMap_cons]
    cases e : vs[i]? with
    | none =>
      have e2 : es[i]? = none := by
        rw [List.getElem?_eq_none_iff] at e ⊢
        rw [← l.length]; exact e
      rw [e2]
      exact l.pick h ix
    | some v =>
      obtain ⟨x, e2, r2⟩ := l.at_ i v e
      rw [e2]
      refine .cons r2 (fun c hc => ?_) (l.pick h ix)
      subst hc
      have hm : E.f c ∈ es := List.mem_of_getElem? e2
      have := List.all_eq_true.mp h _ hm
      cases this
def tPick (ix : List Nat) (m : Nat) (t : TA) : TA := fun σ H Q => t σ H fun vs H1 => vs.length = m ∧ Q (pick ix vs) H1
section
variable {X : Cx} {G : Str → Addr} {PV : List V} {W : WX} {e : Expr} {kws : List Keyword} {fa : M E} {fe fl : M (List E)} {ix : List Nat} {nm : Option Str} {kpos : Pos}
theorem pick_imp {m : Nat} : ∀ σ H Q, LEs (pk X G) PV W (M.bind fl (pickM ix m)) σ H Q → tPick ix m (LEs (pk X G) PV W fl) σ H Q := fun σ H Q h =>
  lso_bind (rel := fun H => eslrel (pk X G) σ H) h fun z0 z1 vs es h0 S0 x0 S1 l A => by
    have A1 : Acc (pk X G) PV W σ z0 (eslrel (pk X G) σ z0.H) ((if es.all noF = true ∧ es.length = m then M.pure (pick ix es) else M.no : M (List E)) z1.ρ z1.s) Q := A
    by_cases hn : es.all noF = true ∧ es.length = m
    · rw [if_pos hn] at A1
      exact ⟨l.length.trans hn.2, A1 _ z1.F z1.H z1.m x0 S1 (l.pick hn.1 ix)⟩
    · rw [if_neg hn] at A1; exact A1.elim
theorem PKi {t t' : TA} (h : PK X kws t) (k : ∀ σ H Q, t' σ H Q → t σ H Q) : PK X kws t' := ⟨fun pos pins s σ H Q I w => h.run pos pins s σ H Q I (k σ H Q w)⟩
theorem lk_nil : PK X [] (LEs (pk X G) PV W esNil) := PKi pk_nil fun σ H Q ⟨z, e, S, A⟩ => by subst e; exact A [] z.F z.H z.m EX.refl S .nil
theorem lk_cons (ha : PE X e (LE (pk X G) PV W fa)) (hr : PK X kws (LEs (pk X G) PV W fe)) : PK X (⟨nm, e, kpos⟩ :: kws) (LEs (pk X G) PV W (esCons fa fe)) :=
  PKi (pk_cons ha hr) fun σ H Q hq => by
    obtain ⟨z, rfl, S0, A0⟩ := hq
    refine ⟨z, rfl, S0, ?_⟩
    unfold esCons M.bind at A0
    cases hf : fa z.ρ z.s with
    | no => rw [hf] at A0; exact A0.elim
    | ex c ns vs ρ s => rw [hf] at A0; exact A0
    | ok x ρ s =>
      rw [hf] at A0
      intro v F H m e1 S1 r
      refine ⟨⟨F, H, m, ρ, s⟩, rfl, S1, ?_⟩
      have A1 : Acc (pk X G) PV W σ z (eslrel (pk X G) σ z.H) (M.bind fe (fun ds => M.pure (x :: ds)) ρ s) Q := A0
      unfold M.bind at A1
      cases hg : fe ρ s with
      | no => rw [hg] at A1; exact A1.elim
      | ex c ns vs ρ s => rw [hg] at A1; exact fun F2 H2 m2 d e2 S2 q => A1 F2 H2 m2 d (e1.trans S0 e2) S2 q
      | ok ys ρ2 s2 =>
        rw [hg] at A1
        intro vs F2 H2 m2 e2 S2 l
        exact A1 (v :: vs) F2 H2 m2 (e1.trans S0 e2) S2 (.cons (r.up S1 e2) (fun c hc j c' hj q => by
          subst hc
          obtain ⟨a, rfl, _, _, _, hcr⟩ := r
          obtain ⟨o, ho⟩ := hcr.there
          obtain ⟨w, hw, rw'⟩ := l.get hj
          rw [q] at hw
          cases hw
          obtain ⟨b, eb, _, _, hn, _⟩ := rw'
          cases eb
          have ho : H a = some o := ho
          have hn : H a = none := hn
          rw [hn] at ho
          cases ho) (l.org fun b hb => e1.kn hb))
end
/-- how keywords alone bind -/
def KBx (K : PySem.W.Frag) (fd : FuncData) (ps ks : List Str) (ix : List Nat) : Prop := ∀ (s : Shared) (ws : List Value), K.In s.heap → ws.length = ks.length → BindsTo s fd ⟨[], ks.zip ws⟩ (ps.zip (pick ix ws))
/-- .. of the def called x -/
def KbAt (K : PySem.W.Frag) (mg : Str → Option Value) (x : Str) (ps ks : List Str) (ix : List Nat) : Prop := ∀ f fd, mg x = some (.ref f) → FdAt K f fd → KBx K fd ps ks ix
theorem KbAt.of {K : PySem.W.Frag} {mg : Str → Option Value} {x qual : Str} {st : Stmt} {f : Addr} {fd : FuncData} {ps ks : List Str} {ix : List Nat} (F : L2.Fun K x qual st f fd) (hm : mg x = some (.ref f))
    (h : ∀ (kV doc pm : Value) (an : Option Addr) (cdv ct : Value) (ws : List Value), ws.length = ks.length → bindArgs (PySem.W.fnOf x qual (defArgs st) (defBody st) (defScope st) .none kV doc pm an cdv ct) ⟨[], ks.zip ws⟩ = pure (ps.zip (pick ix ws))) : KbAt K mg x ps ks ix := fun f' fd' hm' ⟨o, lo, ho⟩ => by
  obtain ⟨oc, od, kV, doc, pm, an, cdv, ct, osl, rfl, lk, hcd⟩ := F.ex
  rw [hm] at hm'
  cases hm'
  rw [lk] at lo
  cases lo
  cases ho
  exact fun s ws _ hl => .of_eq (h kV doc pm an cdv ct ws hl)
section
variable {X : Cx} {G : Str → Addr} {PV : List V} {W : WX} {k j n : Nat} {ps ks : List Str} {F : M E} {x : Str} {p pos : Pos} {kws : List Keyword} {fl : M (List E)} {ix : List Nat}
theorem de_calK (C : Cal X.prog X.w X.K X.mg X.base G j x ps F) (B : KbAt X.K X.mg x ps ks ix) (hgd : X.A.guards = some []) (hr : Room k X.A) (hj : j ≤ k) (tk : Takes X W) (hkw : PK X kws (LEs (pk X G) PV W fl)) (hn : ps.length = n := by rfl) (hg : Gl X x := by rfl)
    (hall : (backToKw pos (keywordEach kws X.env)).all (·.1.isSome) = true := by rfl) (hks : (backToKw pos (keywordEach kws X.env)).filterMap (·.1) = ks := by rfl) (hdb : (x == ("__debug__" : Str)) = false := by decide)
    (hpl : ((backTo pos (starEach [] X.env)).any (·.1) || (backToKw pos (keywordEach kws X.env)).any (·.1.isNone)) = false := by rfl) :
    PE X (.Call (.Name x p) [] kws pos) (LE (pk X G) PV W (M.bind (M.bind fl (pickM ix ks.length)) (gCall n F))) := by
  subst hn
  obtain ⟨f, fd, Ff, hm, hk, hb, hfd⟩ := C.ex
  have hB := B f fd hm hfd
  have key : PE X (.Call (.Name x p) [] kws pos) (tCall (spD (pk X G) ps.length F) (WE W) (tPick ix ks.length (LEs (pk X G) PV W fl))) := by
    refine ⟨fun pins s σ H Q I h => ?_⟩
    refine wpAny_Call_Name_kw (ld_glob I hg hm ?_ hdb)
    refine PySem.W.callWith_KW0 (h₀ := X.base) (first := []) I.ok.mod.kin hk hall (thn (hkw.run pos pins s σ H _ I h) fun ws s1 ⟨zs, H1, I1, r, l1, q⟩ => ⟨I1.kIn, ?_⟩) hpl
    rw [hks]
    refine wpAny_call (codeAny_mono (run_g Ff hgd (hr.mono hj) (passAt tk σ) I1 (hB s1 ws I1.kIn (r.length.symm.trans l1)) (Vals.pick r) q) fun r s' hq => ?_)
    cases r with
    | error e => exact hq
    | ok fl =>
      cases fl with
      | ret u => exact hq
      | next => exact hq
      | brk => exact hq
      | cont => exact hq
  exact PEi key fun σ H Q h => tCall_mono pick_imp σ H Q (call_imp σ H Q h)
end
end DL
set_option Elab.async false
set_option linter.all false
set_option maxRecDepth 100000
set_option maxHeartbeats 4000000
/-! DL40: [..] * n. -/
namespace DL
open PySem L2 PySem.Spec PyProof.Rows
def gRepL (a b : E) : M E := fun ρ s => match a, b with
  | .f (.lst ds), .v (.int k) => if -(2 ^ 63) ≤ k ∧ k < 2 ^ 63 ∧ ds.length * k.toNat ≤ sizeLine then .ok (.f (.lst (List.replicate k.toNat ds).flatten)) ρ s else .no
  | _, _ => .no
theorem repL_app {P : Par} {F : Hp} {m : List Addr} : ∀ {vs : List V} {ds : List D} {us : List V} {es : List D}, RepL P F m vs ds → RepL P F m us es → RepL P F m (vs ++ us) (ds ++ es) := by
  intro vs
  induction vs with
  | nil => intro ds us es h l; cases h; exact l
  | cons v vs ih => intro ds us es h l; cases h with | cons r t => exact .cons r (ih t l)
theorem repL_rep {P : Par} {F : Hp} {m : List Addr} {vs : List V} {ds : List D} (l : RepL P F m vs ds) : ∀ n : Nat, RepL P F m (List.replicate n vs).flatten (List.replicate n ds).flatten
  | 0 => .nil
  | n + 1 => by
    rw [List.replicate_succ, List.replicate_succ, List.flatten_cons, List.flatten_cons]
    exact repL_app l (repL_rep l n)
theorem od_rep {P : Par} {PV : List V} {W : WX} : OpD P PV W gRepL rRep := by
  intro σ z H1 H2 x y a b Q S r1 r2 A
  unfold gRepL at A
  split at A
  · rename_i ds k
    split at A
    · rename_i h
      obtain ⟨p, rfl, hF, hM, hN, vs, hH, l⟩ := r1
      cases r2.int
      refine ⟨p, k, vs, rfl, rfl, hH, h.1, h.2.1, by rw [l.length]; exact h.2.2, fun q hq => acc_newL S hq (repL_rep l _) A⟩
    · exact A.elim
  · exact A.elim
theorem de_rep {X : Cx} {G : Str → Addr} {PV : List V} {W : WX} {a b : Expr} {fa fb : M E} {pos : Pos} (ha : PE X a (LE (pk X G) PV W fa)) (hb : PE X b (LE (pk X G) PV W fb)) : PE X (.BinOp a .Mult b pos) (LE (pk X G) PV W (eBin gRepL fa fb)) :=
  de_op op_rep od_rep ha hb
end DL
set_option Elab.async false
set_option linter.all false
set_option maxRecDepth 100000
set_option maxHeartbeats 4000000
/-! DL41: makers called with keywords alone. -/
namespace DL
open PySem L2 PySem.Spec PyProof.Rows
/-- how keywords alone bind, behind self -/
def KBi (K : PySem.W.Frag) (fd : FuncData) (ps ks : List Str) (ix : List Nat) : Prop := ∀ (s : Shared) (u : Value) (ws : List Value), K.In s.heap → ws.length = ks.length → BindsTo s fd ⟨[u], ks.zip ws⟩ (ps.zip (u :: pick ix ws))
/-- .. of the __init__ of the class c -/
def KbIn (K : PySem.W.Frag) (G : Str → Addr) (c : Str) (ps ks : List Str) (ix : List Nat) : Prop := ∀ f fd, Mk K (G c) f → FdAt K f fd → KBi K fd ps ks ix
theorem KbIn.of {K : PySem.W.Frag} {G : Str → Addr} {c x qual : Str} {st : Stmt} {f : Addr} {fd : FuncData} {ps ks : List Str} {ix : List Nat} (F : L2.Fun K x qual st f fd) (hm : Mk K (G c) f)
    (h : ∀ (kV doc pm : Value) (an : Option Addr) (cdv ct : Value) (u : Value) (ws : List Value), ws.length = ks.length → bindArgs (PySem.W.fnOf x qual (defArgs st) (defBody st) (defScope st) .none kV doc pm an cdv ct) ⟨[u], ks.zip ws⟩ = pure (ps.zip (u :: pick ix ws))) : KbIn K G c ps ks ix := fun f' fd' hm' ⟨o, lo, ho⟩ => by
  obtain ⟨oc, od, kV, doc, pm, an, cdv, ct, osl, rfl, lk, hcd⟩ := F.ex
  have e1 := hm.init
  have e2 := hm'.init
  rw [e1] at e2
  cases e2
  rw [lk] at lo
  cases lo
  cases ho
  exact fun s u ws _ hl => .of_eq (h kV doc pm an cdv ct u ws hl)
section
variable {X : Cx} {G : Str → Addr} {PV : List V} {W : WX} {k j n : Nat} {ps ks : List Str} {F : M E} {c : Str} {p pos : Pos} {kws : List Keyword} {fl : M (List E)} {ix : List Nat}
theorem de_calIK (C : CalI X.prog X.w X.K X.mg X.base G j c ps F) (B : KbIn X.K G c ps ks ix) (hgd : X.A.guards = some []) (hr : Room k X.A) (hj : j + 1 ≤ k) (tk : Takes X W) (hkw : PK X kws (LEs (pk X G) PV W fl)) (hn : ps.length = n := by rfl) (hg : Gl X c := by rfl)
    (hall : (backToKw pos (keywordEach kws X.env)).all (·.1.isSome) = true := by rfl) (hks : (backToKw pos (keywordEach kws X.env)).filterMap (·.1) = ks := by rfl) (hdb : (c == ("__debug__" : Str)) = false := by decide)
    (hpl : ((backTo pos (starEach [] X.env)).any (·.1) || (backToKw pos (keywordEach kws X.env)).any (·.1.isNone)) = false := by rfl) :
    PE X (.Call (.Name c p) [] kws pos) (LE (pk X G) PV W (M.bind (M.bind fl (pickM ix ks.length)) (gMake n c F))) := by
  subst hn
  obtain ⟨f, fd, Ff, hm, hc, hb, hfd⟩ := C.ex
  have hB := B f fd hm hfd
  have hr' : Room (j + 1) X.A := hr.mono hj
  have key : PE X (.Call (.Name c p) [] kws pos) (tMake (G c) (spD (pk X G) ps.length F) (WE W) (tPick ix ks.length (LEs (pk X G) PV W fl))) := by
    refine ⟨fun pins s σ H Q I h => ?_⟩
    refine wpAny_Call_Name_kw (ld_glob I hg hc ?_ hdb)
    refine PySem.W.callWith_KW0 (h₀ := X.base) (first := []) I.ok.mod.kin hm.kp hall (thn (hkw.run pos pins s σ H _ I h) fun ws s1 ⟨zs, H1, I1, r, l1, q⟩ => ⟨I1.kIn, ?_⟩) hpl
    rw [hks]
    have hq := q (s1.heap.objs.size + 1) s1.heap.objs.size (I1.hok.fresh (Nat.le_succ _)) (I1.hok.fresh (Nat.le_refl _)) (Nat.ne_of_lt (Nat.lt_succ_self _))
    have I2 := Inv.made (C := G c) I1
    have r2 : Vals (V.ref (s1.heap.objs.size + 1) :: pick ix zs) (Value.ref (s1.heap.objs.size + 1) :: pick ix ws) := .cons rfl (Vals.pick r)
    have b := hB _ (Value.ref (s1.heap.objs.size + 1)) ws I2.kIn (r.length.symm.trans l1)
    refine wpAny_call (make_map (f := f) I1.kIn hm.makes hm.init (beq_iff_eq.mp hm.fn) (codeAny_mono (Ff.run _ X.stack _ _ ⟨Value.ref (s1.heap.objs.size + 1) :: [], ks.zip ws⟩ (Value.ref (s1.heap.objs.size + 1) :: pick ix ws) _ _ (WE W σ) (guards_make hgd) (hr'.make (G c) [] (ks.zip ws))
      (I2.env0.make (G c) [] (ks.zip ws)) b r2 hq) fun r s' hq' => ?_))
    cases r with
    | error e => exact passAt tk σ pins _ _ e s' I2 hq'
    | ok fl =>
      cases fl with
      | ret u =>
        obtain ⟨v, H', I3, rv, ev, q3⟩ := I2.after hq'
        subst ev
        exact ⟨rv, ⟨V.ref (s1.heap.objs.size + 1), H', I3, rfl, q3⟩⟩
      | next => exact False.elim hq'
      | brk => exact False.elim hq'
      | cont => exact False.elim hq'
  exact PEi key fun σ H Q h => pick_imp σ H _ (make_imp rfl σ H Q h)
end
end DL
set_option Elab.async false
set_option linter.all false
set_option maxRecDepth 100000
set_option maxHeartbeats 4000000
/-! DL42: x in D, D a dict of the module that nobody changes. -/
namespace DL
open PySem L2 PySem.Spec PyProof.Rows
structure KdAt (K : PySem.W.Frag) (w : World) (mg : Str → Option Value) (x : Str) (ks : List Str) : Prop where
  ex : ∃ a es n, mg x = some (.ref a) ∧ KDict K w a es n ∧ ∀ z, ∃ r, PySem.W.nsIn K a z = some r ∧ r.isSome = ks.contains z
def negB : Bool → Bool → Bool
  | false, b => b
  | true, b => !b
def gInK (neg : Bool) (ks : List Str) (e : E) : M E := match e with
  | .v (.str z) => M.pure (.v (.bl (negB neg (ks.contains z))))
  | _ => M.no
section
variable {X : Cx} {G : Str → Addr} {PV : List V} {W : WX} {x : Str} {ks : List Str} {a : Expr} {fa : M E} {p pos : Pos}
theorem inK_imp {neg : Bool} {d : Addr} (hz : ∀ z, ∃ r, PySem.W.nsIn X.K d z = some r ∧ r.isSome = ks.contains z) : ∀ σ H Q, LE (pk X G) PV W (M.bind fa (gInK neg ks)) σ H Q →
    tOp (fun x y H Q => ∃ (z : Str) (r : Option Value), x = .str z ∧ y = .ref d ∧ PySem.W.nsIn X.K d z = some r ∧ Q (.bl (negB neg r.isSome)) H) (LE (pk X G) PV W fa) (tC (.ref d)) σ H Q := fun σ H Q h =>
  le_bind (rel := fun H => erel (pk X G) σ H) (fun k q => erel_org k q) h fun z1 v e1 S r A => by
    unfold gInK at A
    split at A
    · rename_i z
      cases r.str
      obtain ⟨r1, h1, h2⟩ := hz z
      exact ⟨z, r1, rfl, rfl, h1, by rw [h2]; exact acc_val S (.bl _) A⟩
    · exact A.elim
theorem de_inK (B : KdAt X.K X.w X.mg x ks) (ha : PE X a (LE (pk X G) PV W fa)) (hg : Gl X x := by rfl) (hd : (x == ("__debug__" : Str)) = false := by decide) (hm : behindInMarks .In (.Name x p) = false := by rfl) :
    PE X (.Compare a [.In] [.Name x p] pos) (LE (pk X G) PV W (M.bind fa (gInK false ks))) := by
  obtain ⟨d, es, n, h1, D, hz⟩ := B.ex
  refine PEi (pe_cmpR (op_in_kd D) ha (pe_glob (v := .ref d) hg h1 rfl hd) hm) fun σ H Q h => ?_
  exact inK_imp (neg := false) hz σ H Q h
theorem de_notinK (B : KdAt X.K X.w X.mg x ks) (ha : PE X a (LE (pk X G) PV W fa)) (hg : Gl X x := by rfl) (hd : (x == ("__debug__" : Str)) = false := by decide) (hm : behindInMarks .NotIn (.Name x p) = false := by rfl) :
    PE X (.Compare a [.NotIn] [.Name x p] pos) (LE (pk X G) PV W (M.bind fa (gInK true ks))) := by
  obtain ⟨d, es, n, h1, D, hz⟩ := B.ex
  refine PEi (pe_cmpR (op_notIn_kd D) ha (pe_glob (v := .ref d) hg h1 rfl hd) hm) fun σ H Q h => ?_
  exact inK_imp (neg := true) hz σ H Q h
end
end DL
set_option Elab.async false
set_option linter.all false
set_option maxRecDepth 100000
set_option maxHeartbeats 4000000
/-! DL43: dict displays of constants. -/
namespace DL
open PySem L2 PySem.Spec PyProof.Rows
theorem upd_upd {H : Hp} {p : Addr} {a b : HO} : upd (upd H p a) p b = upd H p b := by
  funext x
  unfold upd
  split <;> rfl
theorem tPairs_c : ∀ (kvs : List (Key × V)) {σ : L2.St} {H : Hp} {Q : List (V × V) → Hp → Prop}, Q (kvs.map fun kv => (kV kv.1, kv.2)) H → tPairs (kvs.map fun kv => (tC (kV kv.1), tC kv.2)) σ H Q
  | [], _, _, _, h => h
  | kv :: kvs, σ, H, Q, h => by
    exact tPairs_c kvs (Q := fun ps H3 => Q ((kV kv.1, kv.2) :: ps) H3) h
theorem de_dispC {X : Cx} {G : Str → Addr} {PV : List V} {W : WX} {keys : List (Option Expr)} {values : List Expr} {pos : Pos} (kvs : List (Key × V)) (ds : List D) (h : PPs X pos keys values (kvs.map fun kv => (tC (kV kv.1), tC kv.2)))
    (hr : ∀ F m, RepL (pk X G) F m (kvs.map (·.2)) ds) (hm : mergeK [] kvs = kvs := by rfl) (h15 : kvs.length ≤ 15 := by decide) (hall : keys.all (·.isSome) = true := by rfl) (hl : keys.length = values.length := by rfl) (h0 : keys ≠ [] := by intro h; cases h) (hk : keys.length ≤ 15 := by decide) :
    PE X (.Dict keys values pos) (LE (pk X G) PV W (M.pure (.f (.dk (kvs.map (·.1)) ds)))) :=
  PEi (pe_disp h hall hl h0 hk) fun σ H Q ⟨z, e, S, A⟩ => by
    subst e
    intro p hp
    refine tPairs_c kvs ⟨upd_same, kvs, rfl, h15, ?_⟩
    rw [upd_upd, hm]
    refine acc_new (c := .dk (kvs.map (·.1)) ds) S hp ⟨kvs.map (·.2), by simp, ?_, hr _ _⟩ A
    show upd z.H p _ p = _
    rw [upd_same, List.zip_map']
    simp
end DL
set_option Elab.async false
set_option linter.all false
set_option maxRecDepth 100000
set_option maxHeartbeats 4000000
/-! DL44: t[::-1] of a tuple. -/
namespace HT
open PySem PySem.Spec PyProof.Rows L2
theorem adjust_rev (n : Nat) : Builtin.Slice.sliceAdjust none none (-1) (n : Int) = ((n : Int) - 1, -1) := by
  unfold Builtin.Slice.sliceAdjust
  simp
theorem places_rev (n : Nat) : Builtin.Slice.slicePlaces ((n : Int) - 1) (-1) (-1) = n := by
  unfold Builtin.Slice.slicePlaces
  have h1 : ¬ ((-1 : Int) > 0) := by omega
  rw [if_neg h1]
  have e : (- -1 : Int) = 1 := by omega
  rw [e, Int.ediv_one]
  split <;> omega
theorem pick_rev (xs : Array Value) : ((List.range xs.size).filterMap fun (m : Nat) => xs[((xs.size : Int) - 1 + (m : Int) * (-1)).toNat]?).toArray = xs.toList.reverse.toArray := by
  have e : (List.range xs.size).filterMap (fun (m : Nat) => xs[((xs.size : Int) - 1 + (m : Int) * (-1)).toNat]?) = ((List.range xs.size).map (fun k => xs.size - 1 - k)).filterMap (xs[·]?) := by
    rw [List.filterMap_map]
    have key : ∀ (l : List Nat), (∀ m ∈ l, m < xs.size) → l.filterMap (fun (m : Nat) => xs[((xs.size : Int) - 1 + (m : Int) * (-1)).toNat]?) = l.filterMap ((xs[·]?) ∘ fun k => xs.size - 1 - k) := by
      intro l
      induction l with
      | nil => intro _; rfl
      | cons m l ih =>
        intro h
        have hm := h m (List.mem_cons_self ..)
        have e2 : ((xs.size : Int) - 1 + (m : Int) * (-1)).toNat = xs.size - 1 - m := by omega
        rw [List.filterMap_cons, List.filterMap_cons, ih fun k hk => h k (List.mem_cons_of_mem _ hk), e2]
        rfl
    exact key _ fun m hm => List.mem_range.mp hm
  rw [e, PySem.W.krv_range, List.filterMap_reverse, PySem.W.krv_all]
section
variable {prog : Program} {w : World} {A : Around} {E : Value → Shared → Prop} {s : Shared}
theorem sliceApplied_rev {sl : Addr} {vl vu vs : Value} {n : Nat} {Q : Int × Int × Nat → Shared → Prop} (hs : s.heap.IsSliceOf sl vl vu vs) (pl : IsPart vl none) (pu : IsPart vu none) (ps : IsPart vs (some (-1)))
    (h : Q ((n : Int) - 1, -1, n) s) : wpAny (model prog w) A (Builtin.Slice.sliceApplied (.ref sl) (pure (n : Int))) Q E s := by
  obtain ⟨os, hos, hcs, hds⟩ := id hs
  unfold Builtin.Slice.sliceApplied Builtin.Slice.sliceFields
  refine wpAny_bind (wpAny_bind (wpAny_field hos hds (x := vl) rfl (wpAny_bind (wpAny_field hos hds (x := vu) rfl (wpAny_bind (wpAny_field hos hds (x := vs) rfl (wpAny_pure ?_)))))))
  refine wpAny_bind (slicePart_ ps ?_)
  show wpAny _ _ (if ((-1 : Int) == 0) = true then _ else _) _ _ s
  rw [if_neg (by decide)]
  refine wpAny_bind (slicePart_ pl (wpAny_bind (slicePart_ pu (wpAny_bind (wpAny_pure ?_)))))
  show wpAny _ _ (match Builtin.Slice.sliceAdjust none none (-1) (n : Int) with | (lo, hi) => pure (lo, (-1 : Int), Builtin.Slice.slicePlaces lo hi (-1))) _ _ s
  rw [adjust_rev n]
  show wpAny _ _ (pure ((n : Int) - 1, (-1 : Int), Builtin.Slice.slicePlaces ((n : Int) - 1) (-1) (-1))) _ _ s
  rw [places_rev]
  exact wpAny_pure h
theorem getItem_tuple_rev {t sl : Addr} {items : Array Value} {vl vu vs : Value} {Q : Value → Shared → Prop} (ht : IsTup s.heap t items) (hs : s.heap.IsSliceOf sl vl vu vs) (pl : IsPart vl none) (pu : IsPart vu none) (ps : IsPart vs (some (-1)))
    (h : Q (.ref s.heap.objs.size) { s with heap := s.heap.push { cls := .type "tuple", data := .seq items.toList.reverse.toArray } })
    (hsz : items.size ≤ sizeLine) : wpAny (model prog w) A (getItem (.ref t) (.ref sl)) Q E s := by
  have htake : sizeOk (.seq items.toList.reverse.toArray) := by
    show items.toList.reverse.toArray.size ≤ sizeLine
    rw [List.size_toArray, List.length_reverse, Array.length_toList]
    exact hsz
  obtain ⟨os, hos, hcs, hds⟩ := id hs
  have hTs : s.TypeIs (.ref sl) "slice" := ⟨os, hos, hcs⟩
  unfold getItem
  try with_reducible refine wpAny_holding ?_
  first | refine wpAny_bind (wpAny_pure ?_) | skip
  refine wpAny_bind (wpAny_sequenceKey ht.typeIs (by decide) ?_)
  refine wpAny_bind (wpAny_callSpecial?_slot (name := Str.ofString "__getitem__") ht.typeIs PyProof.Rows.slot_tuple_getitem
    (wpAny_call_entry PyProof.Rows.slot_tuple_getitem ht.typeIs entry_tuple_getitem ?_ (args_tuple_getitem _ _)))
  show wpAny _ _ (Builtin.Tuple.tupleItemsOf (.ref t) >>= _) _ _ s
  refine wpAny_bind (tupleItemsOf_ ht ?_)
  refine wpAny_bind (wpAny_typeOf hTs ?_)
  rw [if_pos (by decide)]
  refine wpAny_bind (sliceApplied_rev hs pl pu ps ?_)
  have hno : ¬ ((((items.size : Int) - 1) == 0 && (-1 : Int) == 1 && items.size == items.size) = true) := by
    intro q
    rw [Bool.and_eq_true, Bool.and_eq_true] at q
    exact absurd q.1.2 (by decide)
  show wpAny _ _ (if (((items.size : Int) - 1) == 0 && (-1 : Int) == 1 && items.size == items.size) = true then _ else _) _ _ s
  rw [if_neg hno, pick_rev]
  first
    | exact wpAny_bind (m := Builtin.Tuple.tupleExact _) (wpAny_newObj_type (wpAny_pure ⟨_, rfl, wpAny_pure h⟩) htake)
    | exact wpAny_bind (m := Builtin.Tuple.tupleExact _) (wpAny_newObj_type (wpAny_bind (wpAny_pure (wpAny_pure ⟨_, rfl, wpAny_pure h⟩))) htake)
    | exact wpAny_bind (wpAny_bind (m := Builtin.Tuple.tupleExact _) (wpAny_newObj_type (wpAny_pure (wpAny_pure ⟨_, rfl, wpAny_pure h⟩)) htake))
    | exact wpAny_bind (wpAny_bind (m := Builtin.Tuple.tupleExact _) (wpAny_newObj_type (wpAny_pure ⟨_, rfl, wpAny_pure h⟩) htake))
end
end HT
namespace L2
open PySem PySem.Spec PyProof.Rows
def tRevT (K : PySem.W.Frag) (te : TE) : TE := fun σ H Q => te σ H fun x H1 => ∃ a xs, x = .ref a ∧ SqT K H1 a xs ∧ ∀ p, H1 p = none → Q (.ref p) (upd H1 p (.tup xs.reverse))
theorem pe_revT {X : Cx} {e : Expr} {te : TE} {k : Nat} {p1 p2 p3 pos : Pos} (he : PE X e te) : PE X (.Subscript e (.Slice none none (some (.UnaryOp .USub (.Constant (.int 1) k p1) p2)) p3) pos) (tRevT X.K te) := by
  refine ⟨fun pins s σ H Q I h => ?_⟩
  refine Subscript_ (thn (he.run pins s σ H _ I h) fun v s1 ⟨x, H1, I1, r1, q1⟩ => ?_)
  obtain ⟨a, xs, ex, hx, q⟩ := q1
  subst ex
  cases r1
  have hst : PO X (some (.UnaryOp .USub (.Constant (.int 1) k p1) p2)) (tPart (tUn (rU fun i => .int (-i)) (tC (.int 1)))) := po_some (pe_un un_neg pe_int)
  refine wpAny_Slice (thn (po_none.run pins s1 σ H1 (fun o H2 => o = none ∧ H2 = H1) I1 ⟨rfl, rfl⟩) fun vl s2 ⟨l, H2, I2, pl, el, e2⟩ => ?_)
  subst el e2
  refine thn (po_none.run pins s2 σ H2 (fun o H3 => o = none ∧ H3 = H2) I2 ⟨rfl, rfl⟩) fun vu s3 ⟨u, H3, I3, pu, eu, e3⟩ => ?_
  subst eu e3
  refine thn (hst.run pins s3 σ H3 (fun o H4 => o = some (-1) ∧ H4 = H3) I3 ⟨1, rfl, -1, rfl, rfl, rfl⟩) fun vs s4 ⟨o, H4, I4, ps, eo, e4⟩ => ?_
  subst eo e4
  have I5 : Inv X pins σ H4 { s4 with heap := s4.heap.push { cls := .type "slice", data := .fields #[vl, vu, vs] } } := I4.kept (t' := s4.toks) fun b ob q => Heap.get?_push_of_some _ q
  obtain ⟨its, r, ht, hz⟩ := I5.tuple hx
  have hlen := r.length
  show wpAny (model X.prog X.w) X.A (subscriptTail e (.Slice none none (some (.UnaryOp .USub (.Constant (.int 1) k p1) p2)) p3) (.ref a) (.ref s4.heap.objs.size)) (EP X pins σ Q) X.xe { s4 with heap := s4.heap.push { cls := .type "slice", data := .fields #[vl, vu, vs] } }
  refine tail_any (ops := [.ref a, .ref s4.heap.objs.size]) ht.typeIs (PyProof.Rows.slot_tuple_getitem.lookup) ?_ (by with_unfolding_all rfl)
  refine HT.getItem_tuple_rev ht (Heap.IsSliceOf.new _ vl vu vs) pl pu ps ?_ (by rw [List.size_toArray]; omega)
  refine ⟨.ref _, _, I5.laid (t' := s4.toks) (o := .tup xs.reverse) (fun b ob q => Heap.get?_push_of_some _ q) (Nat.le_refl _) ?_, rfl, q _ (I5.hok.fresh (Nat.le_refl _))⟩
  exact ⟨by rw [List.length_reverse]; exact hz, _, r.reverse, IsTup.new _ _⟩
end L2
namespace DL
open PySem L2 PySem.Spec PyProof.Rows
def gRevT (e : E) : M E := match e with
  | .v (.tup ds) => M.pure (.v (.tup ds.reverse))
  | _ => M.no
theorem de_revT {X : Cx} {G : Str → Addr} {PV : List V} {W : WX} {e : Expr} {fa : M E} {k : Nat} {p1 p2 p3 pos : Pos} (he : PE X e (LE (pk X G) PV W fa)) : PE X (.Subscript e (.Slice none none (some (.UnaryOp .USub (.Constant (.int 1) k p1) p2)) p3) pos) (LE (pk X G) PV W (M.bind fa gRevT)) :=
  PEi (pe_revT he) fun σ H Q h => le_bind (rel := fun H => erel (pk X G) σ H) (fun k q => erel_org k q) h fun z1 v e1 S r A => by
    unfold gRevT at A
    split at A
    · rename_i ds
      obtain ⟨a, vs, rfl, h1, l1, f1⟩ := r.tup S
      exact ⟨a, vs, rfl, h1, fun p hp => acc_newT S hp l1.reverse A⟩
    · exact A.elim
end DL
set_option Elab.async false
set_option linter.all false
set_option maxRecDepth 100000
set_option maxHeartbeats 4000000
/-! DL45: comprehensions over a told list that nobody changes while it is walked. -/
namespace DL
open PySem L2 PySem.Spec PyProof.Rows
/-- what is walked, and the thing that must stay as it is -/
structure Ws where
  xs : List D
  n : Option (Nat × List D)
def Ws.ok (w : Ws) (s : List Cl) : Prop := match w.n with
  | none => True
  | some (n, ys) => s[n]? = some (.lst ys)
noncomputable def chk {α : Type} (w : Ws) (f : M α) : M α := fun ρ s => @ite _ (w.ok s) (Classical.propDecidable _) (f ρ s) .no
def WalkC (P : Par) (PV : List V) (J : It) (w : Ws) (F0 : Hp) (m0 : List Addr) : Prop := ∀ (i : Nat) (σ' : L2.St) (z : Z), SR P PV σ' z → (∀ a o, F0 a = some o → z.F a = some o) → (∃ r, z.m = m0 ++ r) → w.ok z.s →
  (i < w.xs.length → J.go i z.H ∧ ∀ x H', J.yld i z.H x H' → ∃ F', EX σ' z σ' ⟨F', H', z.m, z.ρ, z.s⟩ ∧ SR P PV σ' ⟨F', H', z.m, z.ρ, z.s⟩ ∧ ∃ d, w.xs[i]? = some d ∧ Rep P F' z.m x d) ∧ (i = w.xs.length → J.stop i z.H)
theorem WalkD.toC {P : Par} {PV : List V} {J : It} {xs : List D} {F0 : Hp} {m0 : List Addr} (h : WalkD P PV J xs F0 m0) : WalkC P PV J ⟨xs, none⟩ F0 m0 := fun i σ' z S k q _ => h i σ' z S k q
def LIC (P : Par) (PV : List V) (W : WX) (f : M Ws) : TI := fun σ H Rr => ∃ z : Z, z.H = H ∧ SR P PV σ z ∧ Acc P PV W σ z (fun z1 (J : It) w => WalkC P PV J w z1.F z1.m) (f z.ρ z.s) Rr
noncomputable def lcC (w : Ws) (vs : List Nat) (g : E → M Unit) (t : M Bool) (e : M D) : List D → List D → M (List D)
  | [], acc => chk w (M.pure acc)
  | d :: ds, acc => chk w (M.bind (g (.v d)) fun _ => M.bind t fun b => if b = true then M.bind e fun y => M.bind (clrM vs) fun _ => (if acc.length < sizeLine then lcC w vs g t e ds (acc ++ [y]) else M.no)
    else M.bind (clrM vs) fun _ => lcC w vs g t e ds acc)
noncomputable def eLcC (vs : List Nat) (fi : M Ws) (g : E → M Unit) (t : M Bool) (e : M D) : M E := M.bind fi fun w ρ s => lcR vs ρ Cl.lst (M.bind (clrM vs) (fun _ => lcC w vs g t e w.xs []) ρ s)
theorem chk_ok {α : Type} {w : Ws} {f : M α} {ρ : List Sl} {s : List Cl} (h : w.ok s) : chk w f ρ s = f ρ s := by
  unfold chk
  rw [if_pos h]
theorem chk_no {α : Type} {w : Ws} {f : M α} {ρ : List Sl} {s : List Cl} (h : ¬ w.ok s) : chk w f ρ s = .no := by
  unfold chk
  rw [if_neg h]
section
variable {P : Par} {PV : List V} {W : WX} {F0 : Hp} {m0 : List Addr} {a : Addr} {n : Nat} {ys : List D}
theorem ref_at {σ' : L2.St} {z : Z} (hm : m0[n]? = some a) (S : SR P PV σ' z) (km : ∃ r, z.m = m0 ++ r) (ok : z.s[n]? = some (.lst ys)) : ∃ vs, SqL P.K z.H a vs ∧ z.H a = some (.lst vs) ∧ RepL P z.F z.m vs ys := by
  obtain ⟨r, e⟩ := km
  have h : z.m[n]? = some a := by
    rw [e, List.getElem?_append_left (List.getElem?_eq_some_iff.mp hm).1]
    exact hm
  obtain ⟨_, vs, h1, l⟩ := S.cl n a _ h ok
  exact ⟨vs, SqL.of h1, h1, l⟩
theorem SqL.lst {K : PySem.W.Frag} {H : Hp} {a : Addr} {vs us : List V} (h : H a = some (.lst vs)) (q : SqL K H a us) (f : ∀ {xs}, SqL K H a xs → xs = vs) : us = vs := f q
theorem walk_rl (hm : m0[n]? = some a) : WalkC P PV (Itl P.K a) ⟨ys, some (n, ys)⟩ F0 m0 := fun i σ' z S kF km ok => by
  obtain ⟨vs, hq, hH, lz⟩ := ref_at hm S km ok
  have e := lz.length
  refine ⟨fun hi => ⟨?_, fun x H' hy => ?_⟩, fun hi => ⟨vs, hq, by have : i = ys.length := hi; omega⟩⟩
  · have hi : i < ys.length := hi
    exact ⟨vs, vs[i]'(by omega), hq, List.getElem?_eq_getElem (by omega)⟩
  · obtain ⟨rfl, hx⟩ := hy
    obtain ⟨d, hd, r⟩ := lz.get' (hx vs hq)
    exact ⟨z.F, EX.refl, S, d, hd, r⟩
theorem walk_re (hm : m0[n]? = some a) : WalkC P PV (Ite P.K a) ⟨enumD ys, some (n, ys)⟩ F0 m0 := fun i σ' z S kF km ok => by
  obtain ⟨vs, hq, hH, lz⟩ := ref_at hm S km ok
  have e := lz.length
  show (i < (enumD ys).length → _) ∧ (i = (enumD ys).length → _)
  rw [enumD_length]
  refine ⟨fun hi => ⟨?_, fun x H' hy => ?_⟩, fun hi => ⟨vs, hq, by omega⟩⟩
  · exact ⟨vs, vs[i]'(by omega), hq, List.getElem?_eq_getElem (by omega)⟩
  · obtain ⟨T, u, rfl, hT, rfl, hx⟩ := hy
    obtain ⟨d, hd, r⟩ := lz.get' (hx vs hq)
    obtain ⟨x1, S1, r1⟩ := pair_step S hT (RepL.cons (.int (i : Nat)) (.cons r .nil))
    exact ⟨_, x1, S1, _, enumD_get hd, r1⟩
end
def walkC (d : D) : M Ws := fun ρ s => match d with
  | .tup xs => .ok ⟨xs, none⟩ ρ s
  | .lst xs => .ok ⟨xs, none⟩ ρ s
  | .ref n => match s[n]? with
    | some (.lst ys) => .ok ⟨ys, some (n, ys)⟩ ρ s
    | _ => .no
  | _ => .no
def itC (f : M E) : M Ws := M.bind (M.bind f frz) walkC
def wEnumC (ds : List D) : M Ws := fun ρ s => match ds with
  | [.tup xs] => .ok ⟨enumD xs, none⟩ ρ s
  | [.lst xs] => .ok ⟨enumD xs, none⟩ ρ s
  | [.ref n] => match s[n]? with
    | some (.lst ys) => .ok ⟨enumD ys, some (n, ys)⟩ ρ s
    | _ => .no
  | _ => .no
abbrev crel (P : Par) (PV : List V) : Z → It → Ws → Prop := fun z1 J w => WalkC P PV J w z1.F z1.m
section
variable {X : Cx} {G : Str → Addr} {PV : List V} {W : WX} {tg l e e2 : Expr} {f f2 : M E} {fl : M (List D)} {es : List Expr} {p pos tpos : Pos} {elts : List Expr} {kk : Nat}
theorem di_seqC (hl : PE X l (LE (pk X G) PV W f)) : PI X tg l (LIC (pk X G) PV W (itC f)) :=
  PIi (pi_seq (dd hl)) fun σ H R h => ld_bind (rel := fun _ => crel (pk X G) PV) (fun _ q => q) h fun z1 v d S r A => by
    obtain ⟨h1, h2, h3⟩ := seq_rep (PV := PV) r
    unfold walkC at A
    split at A
    · obtain ⟨a, vs, rfl, l, hq⟩ := h2 _ (.inl rfl)
      exact .inl (.inr ⟨a, rfl, ⟨vs, hq _ _ S fun _ _ h => h⟩, A _ z1.F z1.H z1.m EX.refl S (walk_t hq l).toC⟩)
    · obtain ⟨a, vs, rfl, l, hq⟩ := h1 _ rfl
      exact .inl (.inl ⟨a, rfl, ⟨vs, hq _ _ S fun _ _ h => h⟩, A _ z1.F z1.H z1.m EX.refl S (walk_l hq l).toC⟩)
    · split at A
      · rename_i n ys hs
        cases r with
        | @ref _ a hm =>
          obtain ⟨vs, hq, _, _⟩ := ref_at hm S ⟨[], (List.append_nil _).symm⟩ hs
          exact .inl (.inl ⟨a, rfl, ⟨vs, hq⟩, A _ z1.F z1.H z1.m EX.refl S (walk_rl hm)⟩)
      · exact A.elim
    · exact A.elim
theorem di_enumC (hg : Gl X "enumerate") (hm : X.mg "enumerate" = none) (ha : PA X [e] (LA (pk X G) PV W fl)) (hs : starEach [e] X.env = [(false, eval e X.env)] := by rfl) : PI X (.Tuple elts kk tpos) (.Call (.Name "enumerate" p) [e] [] pos) (LIC (pk X G) PV W (M.bind fl wEnumC)) :=
  PIi (pi_enumA hg hm ha hs) fun σ H R h => la_bind (rel := fun _ => crel (pk X G) PV) (fun _ q => q) h fun z1 vs ds S l A => by
    unfold wEnumC at A
    split at A
    · obtain ⟨v, rfl, r⟩ := l.one
      obtain ⟨_, h2, _⟩ := seq_rep (PV := PV) r
      obtain ⟨a, vs, rfl, l, hq⟩ := h2 _ (.inl rfl)
      exact ⟨a, vs, rfl, .inr ⟨hq _ _ S fun _ _ h => h, A _ z1.F z1.H z1.m EX.refl S (walk_et hq l).toC⟩⟩
    · obtain ⟨v, rfl, r⟩ := l.one
      obtain ⟨h1, _, _⟩ := seq_rep (PV := PV) r
      obtain ⟨a, vs, rfl, l, hq⟩ := h1 _ rfl
      exact ⟨a, vs, rfl, .inl ⟨hq _ _ S fun _ _ h => h, A _ z1.F z1.H z1.m EX.refl S (walk_el hq l).toC⟩⟩
    · obtain ⟨v, rfl, r⟩ := l.one
      split at A
      · rename_i n ys hs
        cases r with
        | @ref _ a hm =>
          obtain ⟨vs, hq, _, _⟩ := ref_at hm S ⟨[], (List.append_nil _).symm⟩ hs
          exact ⟨a, vs, rfl, .inl ⟨hq, A _ z1.F z1.H z1.m EX.refl S (walk_re hm)⟩⟩
      · exact A.elim
    · exact A.elim
end
theorem lieC_bind {P : Par} {PV : List V} {W : WX} {σ : L2.St} {H : Hp} {Q : VK} {fi : M Ws} {k : Ws → M E} {Q1 : It → Hp → Prop} (h : ∃ z : Z, z.H = H ∧ SR P PV σ z ∧ Acc P PV W σ z (erel P σ H) (M.bind fi k z.ρ z.s) Q)
    (hk : ∀ z1 J w, SR P PV σ z1 → WalkC P PV J w z1.F z1.m → Acc P PV W σ z1 (erel P σ z1.H) (k w z1.ρ z1.s) Q → Q1 J z1.H) : LIC P PV W fi σ H Q1 := by
  obtain ⟨z, rfl, S, A⟩ := h
  refine ⟨z, rfl, S, ?_⟩
  unfold M.bind at A
  cases hf : fi z.ρ z.s with
  | no => rw [hf] at A; exact A.elim
  | ex c ns vs ρ s => rw [hf] at A; exact A
  | ok e ρ s =>
    rw [hf] at A
    intro v F H1 m x S1 r
    exact hk ⟨F, H1, m, ρ, s⟩ v e S1 r (A.later S x fun z2 b y _ q => erel_org (fun a ha => x.kn ha) q)
section
variable {X : Cx} {G : Str → Addr} {PV : List V} {W : WX} {elt tg iter : Expr} {ifs : List Expr} {scope : Scope} {own : List (Str × Nat)} {pos : Pos} {fi : M Ws} {g : E → M Unit} {t : M Bool} {e : M D}
theorem lcC_imp {P : Par} {vs : List Nat} : ∀ σ H Q, LE P PV W (eLcC vs fi g t e) σ H Q → tLc (LIC P PV W fi) (LGw P PV W0 vs g) (LT P PV W0 t) (LD P PV W0 e) vs σ H Q :=
  fun σ H Q h => lieC_bind h fun z1 J ws S1 w A => fun D hD => by
    refine ⟨fun i m H => i ≤ ws.xs.length ∧ m = ws.xs.length - i ∧ ∃ (z : Z) (acc : List DL.D), z.H = H ∧ Blk P PV σ vs z1 D (.lst acc) z ∧ Acc P PV W σ z1 (erel P σ z1.H) (lcR vs z1.ρ Cl.lst (lcC ws vs g t e (ws.xs.drop i) acc z.ρ z.s)) Q,
      ⟨ws.xs.length, Nat.zero_le _, rfl, _, [], rfl, Blk.start S1 hD ⟨[], upd_same, .nil⟩, A⟩, ?_⟩
    rintro i m H ⟨hi, rfl, z, acc, rfl, B, A⟩
    by_cases hok : ws.ok z.s
    · obtain ⟨w1, w2⟩ := w i _ z B.sr B.ex.fs B.ex.mp hok
      by_cases hl : i < ws.xs.length
      · refine .inr ⟨(w1 hl).1, fun H' => ∃ (z : Z) (acc : List DL.D), z.H = H' ∧ Blk P PV σ vs z1 D (.lst acc) z ∧ Acc P PV W σ z1 (erel P σ z1.H) (lcR vs z1.ρ Cl.lst (lcC ws vs g t e (ws.xs.drop (i + 1)) acc z.ρ z.s)) Q, fun H' h => ⟨ws.xs.length - (i + 1), by omega, by omega, rfl, h⟩, fun x H' hy => ?_⟩
        obtain ⟨F', x1, S', d, hd, r⟩ := (w1 hl).2 x H' hy
        have hdr : ws.xs.drop i = d :: ws.xs.drop (i + 1) := by
          rw [List.drop_eq_getElem_cons hl]
          have : ws.xs[i] = d := by rw [List.getElem?_eq_getElem hl] at hd; exact Option.some.inj hd
          rw [this]
        rw [hdr] at A
        unfold lcC at A
        rw [chk_ok hok] at A
        refine ⟨_, ⟨F', H', z.m, z.ρ, z.s⟩, ⟨F', H', z.m, z.ρ, z.s⟩, .v d, rfl, S', EX.refl, S', r, subU_ok (z := ⟨F', H', z.m, z.ρ, z.s⟩) A fun σ2 F2 H2 m2 ρ2 s2 x2 S2 A2 hw => ⟨hw.trans wipe_wipe, ⟨F2, H2, m2, ρ2, s2⟩, rfl, S2, sub_ok (z := ⟨F2, H2, m2, ρ2, s2⟩) A2 fun b F3 H3 m3 b' ρ3 s3 x3 S3 rb A3 => ?_⟩⟩
        have rb : b = b' := rb
        have hw := hw.trans wipe_wipe
        subst rb
        have x13 := (x1.trans B.sr x2).trans B.sr x3
        cases b with
        | false =>
          rw [if_neg Bool.false_ne_true]
          rw [if_neg Bool.false_ne_true] at A3
          have B3 := (B.step S1 x13 S3 hw).1
          exact ⟨_, acc, rfl, B3, A3⟩
        | true =>
          rw [if_pos rfl]
          rw [if_pos rfl] at A3
          refine ⟨⟨F3, H3, m3, ρ3, s3⟩, rfl, S3, sub_ok (z := ⟨F3, H3, m3, ρ3, s3⟩) A3 fun y F4 H4 m4 dy ρ4 s4 x4 S4 ry A4 => ?_⟩
          obtain ⟨B4, hf4, hm4, hc4⟩ := B.step S1 (x13.trans B.sr x4) S4 hw
          obtain ⟨us, hD4, l4⟩ := hc4
          have hlen := l4.length
          have A5 : Acc P PV W σ z1 (erel P σ z1.H) (lcR vs z1.ρ Cl.lst ((if acc.length < sizeLine then lcC ws vs g t e (ws.xs.drop (i + 1)) (acc ++ [dy]) else M.no) (clr vs ρ4) s4)) Q := A4
          by_cases hz : acc.length < sizeLine
          · rw [if_pos hz] at A5
            exact ⟨us, hD4, by omega, _, acc ++ [dy], rfl, B4.write hD ⟨us ++ [y], upd_same, l4.snoc ry⟩, A5⟩
          · rw [if_neg hz] at A5; exact A5.elim
      · have hl : ws.xs.length ≤ i := Nat.le_of_not_lt hl
        refine .inl ⟨w2 (Nat.le_antisymm hi hl), ?_⟩
        rw [List.drop_eq_nil_of_le hl] at A
        unfold lcC at A
        rw [chk_ok hok] at A
        exact B.done S1 hD A
    · exfalso
      have : ∀ l, lcC ws vs g t e l acc z.ρ z.s = .no := fun l => by
        cases l with
        | nil => unfold lcC; exact chk_no hok
        | cons d l => unfold lcC; exact chk_no hok
      rw [this] at A
      exact A.elim
theorem de_lcC (hc : X.calm = true) (hN : X.N.Nodup) (hi : PI X tg iter (LIC (pk X G) PV W fi)) (ok : BlkOk X.N X.env.scope scope own)
    (hg : ∀ (s : Shared) (H : Hp) (C : Addr) (cl : List (Str × Addr)) (fp : List Addr), PG (X.blk s H scope (compEnvC scope cl C X.env) fp) tg (LGw (pk X G) PV W0 (own.map (·.2)) g)) (ht : ∀ (s : Shared) (H : Hp) (C : Addr) (cl : List (Str × Addr)) (fp : List Addr), PTs (X.blk s H scope (compEnvC scope cl C X.env) fp) ifs (LT (pk X G) PV W0 t))
    (he : ∀ (s : Shared) (H : Hp) (C : Addr) (cl : List (Str × Addr)) (fp : List Addr), PE (X.blk s H scope (compEnvC scope cl C X.env) fp) elt (LD (pk X G) PV W0 e)) (hs : ∀ x, foldedSetIterable iter X.env x = pure x := by intro _; rfl) :
    PE X (.ListComp elt [⟨tg, iter, ifs, 0⟩] scope pos) (LE (pk X G) PV W (eLcC (own.map (·.2)) fi g t e)) :=
  PEi (pe_lc hc hN hi ok hg ht he hs) lcC_imp
end
end DL
set_option Elab.async false
set_option linter.all false
set_option maxRecDepth 100000
set_option maxHeartbeats 4000000
/-! DL46: lists of unlike lengths are not equal, whatever they hold. -/
namespace PySem.SeqAt
open PySem PySem.Spec PyProof.Rows
theorem list_eqLen (l b : Addr) (items items2 : Array Value) (n n2 : Nat) (dd dd2 : Option Addr) (sl sl2 : Array (Option Value)) (hc0 : (items.size != items2.size) = true) :
    Meets (Builtin.«list.__eq__» ⟨[.ref l, .ref b], []⟩) (fun _ R s => s.heap.get? l = some { cls := .type "list", dict := dd, data := .seq items n, slots := sl } ∧ s.heap.get? b = some { cls := .type "list", dict := dd2, data := .seq items2 n2, slots := sl2 } ∧ R (.ok (.ret (.bool false))) s) :=
  .of_wp fun prog w A R s h => by
    obtain ⟨hp, g, d, tk, os⟩ := s; obtain ⟨hl, hb, h⟩ := h
    have f3 := AutoSeq1.sub_list_list
    wp_walk using wpAny_loadPart' hl, wpAny_loadPart' hb
    exact ⟨_, rfl, h⟩
end PySem.SeqAt
namespace DL
open PySem L2 PySem.Spec PyProof.Rows
def rEqLen (K : PySem.W.Frag) : R2 := fun x y H Q => ∃ a b xs ys, x = .ref a ∧ y = .ref b ∧ SqL K H a xs ∧ SqL K H b ys ∧ xs.length ≠ ys.length ∧ Q (.bl false) H
theorem op_eqLen {X : Cx} (hu : X.A.units < cLine) : OpR X (compareOp .Eq) (rEqLen X.K) := by
  intro pins s σ H x y v u Q I rx ry h
  obtain ⟨a, b, xs, ys, rfl, rfl, ha, hb, hn, q⟩ := h
  cases rx
  cases ry
  obtain ⟨us, r1, p1, _⟩ := I.list ha
  obtain ⟨ws, r2, p2, _⟩ := I.list hb
  have hsz : (us.toArray.size != ws.toArray.size) = true := by
    rw [List.size_toArray, List.size_toArray, ← r1.length, ← r2.length]
    simpa using hn
  obtain ⟨⟨cls, dd, data, sl⟩, ho, hc, n, hd⟩ := id p1.isList
  obtain ⟨⟨cls2, dd2, data2, sl2⟩, ho2, hc2, n2, hd2⟩ := id p2.isList
  simp only at hc hd hc2 hd2
  subst hc hd hc2 hd2
  have ta : s.TypeIs (.ref a) "list" := ⟨_, ho, rfl⟩
  have tb : s.TypeIs (.ref b) "list" := ⟨_, ho2, rfl⟩
  exact richCompare_meets_room (op := .Eq) ta tb PySem.F.slot_list_eq PySem.F.entry_list_eq (PySem.F.args_list_eq_2 _ _) (PySem.SeqAt.list_eqLen a b us.toArray ws.toArray n n2 dd dd2 sl sl2 hsz)
    ⟨ho, ho2, show Value.bool false ≠ Value.notImplemented ∧ _ from ⟨(fun x => nomatch x), ⟨.bl false, H, I, rfl, q⟩⟩⟩ hu
/-- ==, lists of unlike lengths too -/
def lenNe (a b : E) (ρ : List Sl) (s : List Cl) : Bool := match con a ρ s, con b ρ s with
  | some (.lst xs), some (.lst ys) => xs.length != ys.length
  | _, _ => false
def gEqZ (a b : E) : M E := fun ρ s => if lenNe a b ρ s = true then .ok (.v (.bl false)) ρ s else gEq a b ρ s
theorem opd_eqZ {P : Par} {PV : List V} {W : WX} {K : PySem.W.Frag} (hK : P.K = K) : OpD P PV W gEqZ (fun x y H Q => (rEq x y H Q ∨ rEqD K x y H Q) ∨ rEqLen K x y H Q) := by
  intro σ z H1 H2 x y a b Q S ra rb A
  unfold gEqZ at A
  split at A
  · rename_i h
    unfold lenNe at h
    split at h
    · rename_i xs ys h1 h2
      obtain ⟨p, rfl, vs, e1, l1⟩ := con_ok S ra h1
      obtain ⟨q, rfl, ws, e2, l2⟩ := con_ok S rb h2
      have n1 := l1.length
      have n2 := l2.length
      have h : xs.length ≠ ys.length := by simpa using h
      exact .inr ⟨p, q, vs, ws, rfl, rfl, SqL.of e1, SqL.of e2, by omega, acc_val S (.bl _) A⟩
    · cases h
  · exact .inl (opd_eq hK σ z H1 H2 x y a b Q S ra rb A)
section
variable {X : Cx} {G : Str → Addr} {PV : List V} {W : WX} {a b : Expr} {fa fb : M E} {pos : Pos}
theorem de_eqZ (hu : X.A.units + 64 < cLine) (ha : PE X a (LE (pk X G) PV W fa)) (hb : PE X b (LE (pk X G) PV W fb)) : PE X (.Compare a [.Eq] [b] pos) (LE (pk X G) PV W (eBin gEqZ fa fb)) :=
  de_cmp ((op_eq.or (op_eqD hu)).or (op_eqLen (by omega))) (opd_eqZ rfl) ha hb (nomark _)
theorem dt_eqZ (hu : X.A.units + 64 < cLine) (ha : PE X a (LE (pk X G) PV W fa)) (hb : PE X b (LE (pk X G) PV W fb)) : PT X (.Compare a [.Eq] [b] pos) (LT (pk X G) PV W (tB (eBin gEqZ fa fb))) := dt_cmp ((op_eq.or (op_eqD hu)).or (op_eqLen (by omega))) (opd_eqZ rfl) ha hb (nomark _)
end
end DL
set_option Elab.async false
set_option linter.all false
set_option maxRecDepth 100000
set_option maxHeartbeats 4000000
/-! DL47: a dict of the module with text keys and text values: read and walked; starred parts of displays; comprehensions of two sources. -/
namespace DL
open PySem L2 PySem.Spec PyProof.Rows

/-! ### D[e], for k in D -/
structure KmAt (K : PySem.W.Frag) (w : World) (mg : Str → Option Value) (x : Str) (kvs : List (Str × Str)) : Prop where
  ex : ∃ (a : Addr) (es : Array DictEntry) (n : Nat), mg x = some (.ref a) ∧ KDict K w a es n ∧ es.size = kvs.length ∧ (∀ (i : Nat) (k v : Str), kvs[i]? = some (k, v) → ∃ (en : DictEntry) (t : Tok), es[i]? = some en ∧ en.key = Value.str k t) ∧
    (∀ z y, kvs.lookup z = some y → ∃ u, PySem.W.nsIn K a z = some (some u) ∧ RelV (.str y) u) ∧ ∀ z, ∃ r, PySem.W.nsIn K a z = some r ∧ r.isSome = (kvs.map (·.1)).contains z
theorem KmAt.kd {K : PySem.W.Frag} {w : World} {mg : Str → Option Value} {x : Str} {kvs : List (Str × Str)} (h : KmAt K w mg x kvs) : KdAt K w mg x (kvs.map (·.1)) := by
  obtain ⟨a, es, n, h1, h2, _, _, _, h3⟩ := h.ex
  exact ⟨a, es, n, h1, h2, h3⟩
def ixO : Option Str → M E
  | some y => M.pure (.v (.str y))
  | none => M.no
def gItK (kvs : List (Str × Str)) (e : E) : M E := match e with
  | .v (.str z) => ixO (kvs.lookup z)
  | _ => M.no
/-- the keys of a written dict -/
def Itw (ks : List Str) : It := ⟨fun i _ => i < ks.length, fun i H x H' => H' = H ∧ ∃ k, ks[i]? = some k ∧ x = .str k, fun i _ => ks.length ≤ i⟩
section
variable {P : Program} {w : World} {K : PySem.W.Frag} {tg : Expr} {d : Addr} {es : Array DictEntry} {ep : Nat}
theorem turn_keysW {ks : List Str} (it : Addr) (D : KDict K w d es ep) (hsz : es.size = ks.length) (hk : ∀ (i : Nat) (k : Str), ks[i]? = some k → ∃ (en : DictEntry) (t : Tok), es[i]? = some en ∧ en.key = Value.str k t) : Turn P w K tg (Itw ks) [it] it (fun i h => h.IsKeyIter it d i ks.length ep) where
  mem := by simp
  obj := fun i h st b hb => by
    have e : b = it := by simpa using hb
    subst e
    obtain ⟨oi, e, c, dd⟩ := st
    exact ⟨oi, e, fun v z => by rw [dd] at z; cases z⟩
  keep := fun i h h' st k => st.at fun oi e => k it (by simp) oi e
  item := by
    intro X hP hw hK hc i pins s σ H E I hf st hg
    subst hP hw hK
    have hi : i < ks.length := hg
    obtain ⟨f0, f1, f2, f3, f4, f5⟩ := hf it (by simp)
    obtain ⟨en, t, hen, hkey⟩ := hk i ks[i] (List.getElem?_eq_getElem hi)
    refine next_key_item st (I.kIn _ _ D.at_) rfl hsz hen fun h' st' sb => ?_
    have I1 : Inv X pins σ H { s with heap := h' } := I.turned (t' := s.toks) (fun b ob hb e => (sb.2 b hb).trans e) f0 f1 f3 f4 f5
    obtain ⟨oi, e, c, dd⟩ := id st'
    exact ⟨en.key, rfl, go_of (s := { s with heap := h' }) e c dd (by decide) ⟨.str ks[i], H, I1, ⟨t, hkey⟩, ⟨rfl, _, List.getElem?_eq_getElem hi, rfl⟩, st', fun b hb => (hf b hb).1⟩⟩
  done := by
    intro X hP hw hK hc i pins s σ H E I hf st hg
    subst hP hw hK
    obtain ⟨f0, f1, f2, f3, f4, f5⟩ := hf it (by simp)
    exact next_key_end (I.ok.hd hc) st (I.kIn _ _ D.at_) rfl hsz hg fun h' eb => ⟨rfl, I.turned (t' := s.toks) (fun b ob hb e => eb b ob hb e) f0 f1 f3 f4 f5⟩
  self := fun A i s Q E st h => by
    refine wpAny_pyIter_slot st.typeIs F.slot_dict_keyiterator_iter (wpAny_call_entry F.slot_dict_keyiterator_iter st.typeIs F.entry_dict_keyiterator_iter ?_ (F.args_dict_keyiterator_iter_1 _))
    show wpAny _ _ (ret (.ref it)) _ _ s
    exact wpAny_pure ⟨_, rfl, "dict_keyiterator", _, st.typeIs, F.slot_dict_keyiterator_next.lookup, h⟩
end
def iKeysW (K : PySem.W.Frag) (w : World) (d : Addr) (ks : List Str) (td : TE) : TI := fun σ H R => td σ H fun x H1 => x = .ref d ∧ R (Itw ks) H1
section
variable {X : Cx} {G : Str → Addr} {PV : List V} {W : WX} {x : Str} {kvs : List (Str × Str)} {a e tg : Expr} {es : List Expr} {fa fb : M E} {fl : M (List D)} {p pos : Pos}
theorem pi_keysW {d : Addr} {en : Array DictEntry} {ep : Nat} {ks : List Str} {td : TE} (D : KDict X.K X.w d en ep) (hsz : en.size = ks.length) (hk : ∀ (i : Nat) (k : Str), ks[i]? = some k → ∃ (e : DictEntry) (t : Tok), en[i]? = some e ∧ e.key = Value.str k t) (he : PE X e td) : PI X tg e (iKeysW X.K X.w d ks td) := by
  refine ⟨fun pins s σ H R I h => ?_⟩
  refine thn (he.run pins s σ H _ I h) fun u s1 ⟨x, H1, I1, rx, ex, q⟩ => ?_
  subst ex
  obtain rfl : u = Value.ref d := rx
  refine iter_keys D.low (I1.kIn _ _ D.at_) ⟨rfl, rfl, rfl⟩ rfl (pi_one (tk := s1.toks) I1 _ (turn_keysW _ D hsz hk) ⟨_, Heap.get?_push_size _ rfl, rfl, ?_⟩ q)
  rw [hsz] <;> rfl
theorem itemK_imp {d : Addr} {en : Array DictEntry} {n : Nat} (D : KDict X.K X.w d en n) (hv : ∀ z y, kvs.lookup z = some y → ∃ u, PySem.W.nsIn X.K d z = some (some u) ∧ RelV (.str y) u) : ∀ σ H Q, LE (pk X G) PV W (M.bind fa (gItK kvs)) σ H Q →
    tOp (rIxD X.K X.w) (tC (.ref d)) (LE (pk X G) PV W fa) σ H Q := fun σ H Q h =>
  le_bind (rel := fun H => erel (pk X G) σ H) (fun k q => erel_org k q) h fun z1 v e1 S r A => by
    unfold gItK at A
    split at A
    · rename_i z
      cases hy : kvs.lookup z with
      | some y =>
        rw [hy] at A
        cases r.str
        obtain ⟨u, h1, h2⟩ := hv z y hy
        exact ⟨d, z, .str y, rfl, rfl, ⟨en, n, u, D.at_, D.lit, h1, h2⟩, acc_val S (.str _) A⟩
      | none => rw [hy] at A; exact A.elim
    · exact A.elim
theorem de_itemK (B : KmAt X.K X.w X.mg x kvs) (ha : PE X a (LE (pk X G) PV W fa)) (hs : PlainIx a) (hg : Gl X x := by rfl) (hd : (x == ("__debug__" : Str)) = false := by decide) :
    PE X (.Subscript (.Name x p) a pos) (LE (pk X G) PV W (M.bind fa (gItK kvs))) := by
  obtain ⟨d, en, n, hm, D, _, _, hv, _⟩ := B.ex
  exact PEi (pe_ix ix_kdict (pe_glob hg hm (v := .ref d) rfl hd) ha hs) (itemK_imp D hv)
theorem di_keysW (B : KmAt X.K X.w X.mg x kvs) (hg : Gl X x := by rfl) (hd : (x == ("__debug__" : Str)) = false := by decide) :
    PI X tg (.Name x p) (LI (pk X G) PV W (M.pure (kvs.map fun kv => D.str kv.1))) := by
  obtain ⟨d, en, n, hm, D, hsz, hk, hv, _⟩ := B.ex
  have hk2 : ∀ (i : Nat) (k : Str), (kvs.map (·.1))[i]? = some k → ∃ (e : DictEntry) (t : Tok), en[i]? = some e ∧ e.key = Value.str k t := fun i k h => by
    rw [List.getElem?_map] at h
    cases q : kvs[i]? with
    | none => rw [q] at h; cases h
    | some kv =>
      rw [q] at h
      cases h
      exact hk i kv.1 kv.2 q
  have pi := pi_keysW (tg := tg) (td := tC (.ref d)) D (by rw [List.length_map]; exact hsz) hk2 (pe_glob (pos := p) hg hm (v := .ref d) rfl hd)
  refine ⟨fun pins s σ H R I h => pi.run pins s σ H R I ?_⟩
  obtain ⟨z, rfl, S, A⟩ := h
  refine ⟨rfl, A (Itw (kvs.map (·.1))) z.F z.H z.m EX.refl S ?_⟩
  intro i σ' z' S' kF km
  refine ⟨fun hi => ⟨?_, fun x H' hy => ?_⟩, fun hi => ?_⟩
  · show i < (kvs.map (·.1)).length
    rw [List.length_map] at hi ⊢
    exact hi
  · obtain ⟨rfl, k, hk, rfl⟩ := hy
    refine ⟨z'.F, EX.refl, S', .str k, ?_, .str k⟩
    rw [List.getElem?_map] at hk ⊢
    cases q : kvs[i]? with
    | none => rw [q] at hk; cases hk
    | some kv => rw [q] at hk; cases hk; rfl
  · show (kvs.map (·.1)).length ≤ i
    rw [List.length_map] at hi ⊢
    exact Nat.le_of_eq hi.symm

/-! ### *e in a display -/
def starE (e : E) : M (List D) := fun ρ s => match e with
  | .v (.tup ds) => .ok ds ρ s
  | _ => match con e ρ s with
    | some (.lst ds) => .ok ds ρ s
    | _ => .no
def aStar (fe : M E) (fl : M (List D)) : M (List D) := M.bind fe fun e => M.bind (starE e) fun ds => M.bind fl fun rs => M.pure (ds ++ rs)
theorem starE_ok {P : Par} {PV : List V} {σ : L2.St} {z : Z} {H0 : Hp} {v : V} {e : E} {ds : List D} {ρ : List Sl} {s : List Cl} (S : SR P PV σ z) (r : ER P σ z H0 v e) (h : starE e z.ρ z.s = .ok ds ρ s) : ρ = z.ρ ∧ s = z.s ∧ ∃ p xs, v = .ref p ∧ (SqT P.K z.H p xs ∨ SqL P.K z.H p xs) ∧ RepL P z.F z.m xs ds := by
  have other : (match con e z.ρ z.s with
      | some (.lst ds) => R.ok ds z.ρ z.s
      | _ => (R.no : R (List D))) = R.ok ds ρ s → ρ = z.ρ ∧ s = z.s ∧ ∃ p xs, v = .ref p ∧ (SqT P.K z.H p xs ∨ SqL P.K z.H p xs) ∧ RepL P z.F z.m xs ds := fun h => by
    split at h
    · rename_i ds' hc
      cases h
      obtain ⟨a, rfl, vs, h1, l⟩ := con_ok S r hc
      exact ⟨rfl, rfl, a, vs, rfl, .inr (SqL.of h1), l⟩
    · cases h
  unfold starE at h
  cases e with
  | l i => exact other h
  | f c => exact other h
  | v d =>
    cases d with
    | tup ds' =>
      cases h
      obtain ⟨a, vs, rfl, h1, l, _⟩ := r.tup S
      exact ⟨rfl, rfl, a, vs, rfl, .inl h1, l⟩
    | _ => exact other h
theorem la_star (ha : PE X e (LE (pk X G) PV W fa)) (hr : PA X es (LA (pk X G) PV W fl)) (hs : starEach (.Starred e p :: es) X.env = (true, eval e X.env) :: starEach es X.env := by rfl) : PA X (.Starred e p :: es) (LA (pk X G) PV W (aStar fa fl)) :=
  PAi (StX.pa_star ha hr hs) fun σ H Q hq => by
    refine le_bind (rel := fun _ => lrel (pk X G)) (fun _ q => q) hq fun z1 v e1 S r A => ?_
    rw [bind_eq] at A
    cases hf : starE e1 z1.ρ z1.s with
    | no => rw [hf] at A; exact A.elim
    | ex c ns vs ρ s =>
      unfold starE at hf
      split at hf
      · cases hf
      · split at hf
        · cases hf
        · cases hf
    | ok ds ρ s =>
      rw [hf] at A
      obtain ⟨rfl, rfl, p, xs, ev, hx, l⟩ := starE_ok S r hf
      refine ⟨p, xs, ev, hx, ⟨z1, rfl, S, ?_⟩⟩
      have A1 : Acc (pk X G) PV W σ z1 (lrel (pk X G)) (M.bind fl (fun rs => M.pure (ds ++ rs)) z1.ρ z1.s) Q := A
      rw [bind_eq] at A1
      cases hg : fl z1.ρ z1.s with
      | no => rw [hg] at A1; exact A1.elim
      | ex c ns vs ρ s => rw [hg] at A1; exact A1
      | ok rs ρ s =>
        rw [hg] at A1
        intro vs F H2 m x S2 l2
        exact A1 (xs ++ vs) F H2 m x S2 ((x.repL l).append l2)
end
end DL
set_option Elab.async false
set_option linter.all false
set_option maxRecDepth 100000
set_option maxHeartbeats 4000000
/-! DL48: list comprehensions of two sources. -/
namespace DL
open PySem L2
theorem bind_assoc {α β γ : Type} (f : M α) (g : α → M β) (k : β → M γ) : M.bind (M.bind f g) k = M.bind f fun x => M.bind (g x) k := by
  funext ρ s
  unfold M.bind
  cases f ρ s <;> rfl
theorem bind_no {α β : Type} (k : α → M β) : M.bind (M.no : M α) k = M.no := rfl
theorem lcD_cons_bind {γ : Type} {vs : List Nat} {g : E → M Unit} {t : M Bool} {e : M D} {d : D} {ds acc : List D} {k : List D → M γ} : M.bind (lcD vs g t e (d :: ds) acc) k = M.bind (g (.v d)) fun _ => M.bind t fun b => if b = true then M.bind e fun y => M.bind (clrM vs) fun _ => (if acc.length < sizeLine then M.bind (lcD vs g t e ds (acc ++ [y])) k else M.no)
    else M.bind (clrM vs) fun _ => M.bind (lcD vs g t e ds acc) k := by
  show M.bind (M.bind (g (.v d)) fun _ => M.bind t fun b => if b = true then M.bind e fun y => M.bind (clrM vs) fun _ => (if acc.length < sizeLine then lcD vs g t e ds (acc ++ [y]) else M.no) else M.bind (clrM vs) fun _ => lcD vs g t e ds acc) k = _
  rw [bind_assoc]
  refine congrArg _ (funext fun _ => ?_)
  rw [bind_assoc]
  refine congrArg _ (funext fun b => ?_)
  cases b with
  | false => rw [if_neg Bool.false_ne_true, if_neg Bool.false_ne_true, bind_assoc]
  | true =>
    rw [if_pos rfl, if_pos rfl, bind_assoc]
    refine congrArg _ (funext fun y => ?_)
    rw [bind_assoc]
    refine congrArg _ (funext fun _ => ?_)
    by_cases h : acc.length < sizeLine
    · rw [if_pos h, if_pos h]
    · rw [if_neg h, if_neg h]; rfl
def lcD2 (vs vs1 : List Nat) (g : E → M Unit) (t : M Bool) (fi1 : M (List D)) (g1 : E → M Unit) (t1 : M Bool) (e : M D) : List D → List D → M (List D)
  | [], acc => M.pure acc
  | d :: ds, acc => M.bind (g (.v d)) fun _ => M.bind t fun b => if b = true then M.bind fi1 fun ys => M.bind (clrM vs1) fun _ => M.bind (lcD vs1 g1 t1 e ys acc) fun acc' => M.bind (clrM vs) fun _ => lcD2 vs vs1 g t fi1 g1 t1 e ds acc'
    else M.bind (clrM vs) fun _ => lcD2 vs vs1 g t fi1 g1 t1 e ds acc
def eLc2 (vs vs1 : List Nat) (fi : M (List D)) (g : E → M Unit) (t : M Bool) (fi1 : M (List D)) (g1 : E → M Unit) (t1 : M Bool) (e : M D) : M E := M.bind fi fun xs ρ s => lcR vs ρ Cl.lst (M.bind (clrM vs) (fun _ => lcD2 vs vs1 g t fi1 g1 t1 e xs []) ρ s)
/-- the state within a turn: the new thing D beside, the slots τ -/
structure Blq (P : Par) (PV : List V) (σ : L2.St) (vs : List Nat) (z1 : Z) (D : Addr) (c : Cl) (τ : L2.St) (z : Z) : Prop where
  sr : SR P PV τ z
  ex : EX (L2.wipe σ vs) { z1 with ρ := clr vs z1.ρ } τ z
  hf : z.F D = none
  hm : ¬ Mu τ z D
  hc : CR P z D c
section
variable {P : Par} {PV : List V} {W : WX} {σ σ' τ : L2.St} {z0 z z1 : Z} {vs : List Nat} {D : Addr} {c : Cl} {Q : VK}
theorem Blk.q (B : Blk P PV σ vs z1 D c z) : Blq P PV σ vs z1 D c (L2.wipe σ vs) z := ⟨B.sr, B.ex, B.hf, B.hm, B.hc⟩
theorem Blq.step (B : Blq P PV σ vs z1 D c τ z) (S1 : SR P PV σ z1) {us : List Nat} {σ2 : L2.St} {z2 : Z} (x : EX τ z σ2 z2) (S2 : SR P PV σ2 z2) : Blq P PV σ vs z1 D c (L2.wipe σ2 us) { z2 with ρ := clr us z2.ρ } ∧ z2.F D = none ∧ ¬ Mu σ2 z2 D ∧ CR P z2 D c := by
  obtain ⟨h1, h2, h3⟩ := EX.loose B.sr x B.hf B.hm B.hc
  exact ⟨⟨S2.wipe, EX.toWipe (vs := us) (B.ex.trans S1.wipe x), h1, fun q => h2 (wipe_mu q), h3.rho⟩, h1, h2, h3⟩
theorem Blq.write (B : Blq P PV σ vs z1 D c τ z) (hD : z1.H D = none) {o : HO} {c' : Cl} (hc : CR P { z with H := upd z.H D o } D c') : Blq P PV σ vs z1 D c' τ { z with H := upd z.H D o } :=
  ⟨B.sr.poke B.hf B.hm, B.ex.poke hD, B.hf, B.hm, hc⟩
theorem Blq.k (B : Blq P PV σ vs z1 D c τ z) (hw : L2.wipe τ vs = L2.wipe σ vs) : Blk P PV σ vs z1 D c { z with ρ := clr vs z.ρ } := by
  have h1 := B.sr.wipe (vs := vs)
  have h2 := EX.toWipe (vs := vs) B.ex
  rw [hw] at h1 h2
  refine ⟨h1, h2, B.hf, fun q => B.hm ?_, B.hc.rho⟩
  rw [← hw] at q
  exact wipe_mu q
end
theorem wipe_sub {σ : L2.St} {vs1 vs : List Nat} (h : ∀ i ∈ vs1, i ∈ vs) : L2.wipe (L2.wipe σ vs1) vs = L2.wipe σ vs := by
  induction vs1 with
  | nil => rfl
  | cons v vs1 ih =>
    show L2.wipe ((L2.wipe σ vs1).set v none) vs = _
    rw [wipe_set (h v List.mem_cons_self)]
    exact ih fun i hi => h i (List.mem_cons_of_mem _ hi)
section
variable {X : Cx} {G : Str → Addr} {PV : List V} {W : WX} {elt tg iter tg1 iter1 : Expr} {ifs ifs1 : List Expr} {scope : Scope} {own : List (Str × Nat)} {vs1 : List Nat} {pos : Pos} {fi fi1 : M (List D)} {g g1 : E → M Unit} {t t1 : M Bool} {e : M D}
theorem lc2_imp {P : Par} {vs : List Nat} (hv : ∀ i ∈ vs1, i ∈ vs) : ∀ σ H Q, LE P PV W (eLc2 vs vs1 fi g t fi1 g1 t1 e) σ H Q → tLc2 (LI P PV W fi) (LGw P PV W0 vs g) (LT P PV W0 t) (LI P PV W0 fi1) (LGw P PV W0 vs1 g1) (LT P PV W0 t1) (LD P PV W0 e) vs vs1 σ H Q :=
  fun σ H Q h => lie_bind h fun z1 J xs S1 w A => fun D hD => by
    refine ⟨fun i m H => i ≤ xs.length ∧ m = xs.length - i ∧ ∃ (z : Z) (acc : List DL.D), z.H = H ∧ Blk P PV σ vs z1 D (.lst acc) z ∧ Acc P PV W σ z1 (erel P σ z1.H) (lcR vs z1.ρ Cl.lst (lcD2 vs vs1 g t fi1 g1 t1 e (xs.drop i) acc z.ρ z.s)) Q,
      ⟨xs.length, Nat.zero_le _, rfl, _, [], rfl, Blk.start S1 hD ⟨[], upd_same, .nil⟩, A⟩, ?_⟩
    rintro i m H ⟨hi, rfl, z, acc, rfl, B, A⟩
    obtain ⟨w1, w2⟩ := w i _ z B.sr B.ex.fs B.ex.mp
    by_cases hl : i < xs.length
    · refine .inr ⟨(w1 hl).1, fun H' => ∃ (z : Z) (acc : List DL.D), z.H = H' ∧ Blk P PV σ vs z1 D (.lst acc) z ∧ Acc P PV W σ z1 (erel P σ z1.H) (lcR vs z1.ρ Cl.lst (lcD2 vs vs1 g t fi1 g1 t1 e (xs.drop (i + 1)) acc z.ρ z.s)) Q, fun H' h => ⟨xs.length - (i + 1), by omega, by omega, rfl, h⟩, fun x H' hy => ?_⟩
      obtain ⟨F', x1, S', d, hd, r⟩ := (w1 hl).2 x H' hy
      have hdr : xs.drop i = d :: xs.drop (i + 1) := by
        rw [List.drop_eq_getElem_cons hl]
        have : xs[i] = d := by rw [List.getElem?_eq_getElem hl] at hd; exact Option.some.inj hd
        rw [this]
      rw [hdr] at A
      refine ⟨_, ⟨F', H', z.m, z.ρ, z.s⟩, ⟨F', H', z.m, z.ρ, z.s⟩, .v d, rfl, S', EX.refl, S', r, subU_ok (z := ⟨F', H', z.m, z.ρ, z.s⟩) A fun σ2 F2 H2 m2 ρ2 s2 x2 S2 A2 hw => ⟨hw.trans wipe_wipe, ⟨F2, H2, m2, ρ2, s2⟩, rfl, S2, sub_ok (z := ⟨F2, H2, m2, ρ2, s2⟩) A2 fun b F3 H3 m3 b' ρ3 s3 x3 S3 rb A3 => ?_⟩⟩
      have rb : b = b' := rb
      have hw := hw.trans wipe_wipe
      subst rb
      have x13 := (x1.trans B.sr x2).trans B.sr x3
      cases b with
      | false =>
        rw [if_neg Bool.false_ne_true]
        rw [if_neg Bool.false_ne_true] at A3
        have B3 := (B.step S1 x13 S3 hw).1
        exact ⟨_, acc, rfl, B3, A3⟩
      | true =>
        rw [if_pos rfl]
        rw [if_pos rfl] at A3
        refine ⟨⟨F3, H3, m3, ρ3, s3⟩, rfl, S3, sub_ok (z := ⟨F3, H3, m3, ρ3, s3⟩) A3 fun J1 F4 H4 m4 ys ρ4 s4 x4 S4 w4 A4 => ?_⟩
        have B4 := (B.q.step (us := vs1) S1 (x13.trans B.sr x4) S4).1
        refine ⟨fun j k H => j ≤ ys.length ∧ k = ys.length - j ∧ ∃ (z : Z) (acc : List DL.D), z.H = H ∧ Blq P PV σ vs z1 D (.lst acc) (L2.wipe σ2 vs1) z ∧ (∀ a o, F4 a = some o → z.F a = some o) ∧ (∃ r, z.m = m4 ++ r) ∧
          Acc P PV W σ z1 (erel P σ z1.H) (lcR vs z1.ρ Cl.lst (M.bind (lcD vs1 g1 t1 e (ys.drop j) acc) (fun acc' => M.bind (clrM vs) fun _ => lcD2 vs vs1 g t fi1 g1 t1 e (xs.drop (i + 1)) acc') z.ρ z.s)) Q,
          ⟨ys.length, Nat.zero_le _, rfl, _, acc, rfl, B4, fun _ _ h => h, ⟨[], by simp⟩, A4⟩, ?_⟩
        rintro j k H ⟨hj, rfl, z5, acc5, rfl, B5, k5, q5, A5⟩
        obtain ⟨u1, u2⟩ := w4 j _ z5 B5.sr k5 q5
        by_cases hl5 : j < ys.length
        · refine .inr ⟨(u1 hl5).1, fun H' => ∃ (z : Z) (acc : List DL.D), z.H = H' ∧ Blq P PV σ vs z1 D (.lst acc) (L2.wipe σ2 vs1) z ∧ (∀ a o, F4 a = some o → z.F a = some o) ∧ (∃ r, z.m = m4 ++ r) ∧
            Acc P PV W σ z1 (erel P σ z1.H) (lcR vs z1.ρ Cl.lst (M.bind (lcD vs1 g1 t1 e (ys.drop (j + 1)) acc) (fun acc' => M.bind (clrM vs) fun _ => lcD2 vs vs1 g t fi1 g1 t1 e (xs.drop (i + 1)) acc') z.ρ z.s)) Q, fun H' h => ⟨ys.length - (j + 1), by omega, by omega, rfl, h⟩, fun x H' hy => ?_⟩
          obtain ⟨F6, x6, S6, d6, hd6, r6⟩ := (u1 hl5).2 x H' hy
          have hdr : ys.drop j = d6 :: ys.drop (j + 1) := by
            rw [List.drop_eq_getElem_cons hl5]
            have : ys[j] = d6 := by rw [List.getElem?_eq_getElem hl5] at hd6; exact Option.some.inj hd6
            rw [this]
          rw [hdr, lcD_cons_bind] at A5
          refine ⟨_, ⟨F6, H', z5.m, z5.ρ, z5.s⟩, ⟨F6, H', z5.m, z5.ρ, z5.s⟩, .v d6, rfl, S6, EX.refl, S6, r6, subU_ok (z := ⟨F6, H', z5.m, z5.ρ, z5.s⟩) A5 fun σ3 F7 H7 m7 ρ7 s7 x7 S7 A7 hw7 => ⟨hw7.trans wipe_wipe, ⟨F7, H7, m7, ρ7, s7⟩, rfl, S7, sub_ok (z := ⟨F7, H7, m7, ρ7, s7⟩) A7 fun b F8 H8 m8 b' ρ8 s8 x8 S8 rb A8 => ?_⟩⟩
          have rb : b = b' := rb
          have hw7 := hw7.trans wipe_wipe
          subst rb
          have x68 := (x6.trans B5.sr x7).trans B5.sr x8
          have kk : ∀ {F9 : Hp} {H9 : Hp} {m9 : List Addr} {ρ9 : List Sl} {s9 : List Cl} {σ9 : L2.St}, EX (L2.wipe σ2 vs1) z5 σ9 ⟨F9, H9, m9, ρ9, s9⟩ → (∀ a o, F4 a = some o → F9 a = some o) ∧ ∃ r, m9 = m4 ++ r := fun {F9 H9 m9 ρ9 s9 σ9} x9 => by
            refine ⟨fun a o h => x9.fs a o (k5 a o h), ?_⟩
            obtain ⟨r1, e1⟩ := q5
            obtain ⟨r2, e2⟩ := x9.mp
            exact ⟨r1 ++ r2, by rw [← List.append_assoc, ← e1]; exact e2⟩
          cases b with
          | false =>
            rw [if_neg Bool.false_ne_true]
            rw [if_neg Bool.false_ne_true] at A8
            have B8 := (B5.step (us := vs1) S1 x68 S8).1
            rw [hw7] at B8
            exact ⟨_, acc5, rfl, B8, (kk x68).1, (kk x68).2, A8⟩
          | true =>
            rw [if_pos rfl]
            rw [if_pos rfl] at A8
            refine ⟨⟨F8, H8, m8, ρ8, s8⟩, rfl, S8, sub_ok (z := ⟨F8, H8, m8, ρ8, s8⟩) A8 fun y F9 H9 m9 dy ρ9 s9 x9 S9 ry A9 => ?_⟩
            have x69 := x68.trans B5.sr x9
            obtain ⟨B9, hf9, hm9, hc9⟩ := B5.step (us := vs1) S1 x69 S9
            rw [hw7] at B9
            obtain ⟨us, hD9, l9⟩ := hc9
            have hlen := l9.length
            have A10 : Acc P PV W σ z1 (erel P σ z1.H) (lcR vs z1.ρ Cl.lst ((if acc5.length < sizeLine then M.bind (lcD vs1 g1 t1 e (ys.drop (j + 1)) (acc5 ++ [dy])) (fun acc' => M.bind (clrM vs) fun _ => lcD2 vs vs1 g t fi1 g1 t1 e (xs.drop (i + 1)) acc') else M.no) (clr vs1 ρ9) s9)) Q := A9
            by_cases hz : acc5.length < sizeLine
            · rw [if_pos hz] at A10
              exact ⟨us, hD9, by omega, _, acc5 ++ [dy], rfl, B9.write hD ⟨us ++ [y], upd_same, l9.snoc ry⟩, (kk x69).1, (kk x69).2, A10⟩
            · rw [if_neg hz] at A10; exact A10.elim
        · have hl5 : ys.length ≤ j := Nat.le_of_not_lt hl5
          refine .inl ⟨u2 (Nat.le_antisymm hj hl5), ?_⟩
          rw [List.drop_eq_nil_of_le hl5] at A5
          exact ⟨{ z5 with ρ := clr vs z5.ρ }, acc5, rfl, B5.k ((wipe_sub hv).trans hw), A5⟩
    · have hl : xs.length ≤ i := Nat.le_of_not_lt hl
      refine .inl ⟨w2 (Nat.le_antisymm hi hl), ?_⟩
      rw [List.drop_eq_nil_of_le hl] at A
      exact B.done S1 hD A
theorem de_lc2 (hc : X.calm = true) (hN : X.N.Nodup) (hi : PI X tg iter (LI (pk X G) PV W fi)) (ok : BlkOk X.N X.env.scope scope own) (hv : ∀ i ∈ vs1, i ∈ own.map (·.2))
    (hg : ∀ (s : Shared) (H : Hp) (C : Addr) (cl : List (Str × Addr)) (fp : List Addr), PG (X.blk s H scope (compEnvC scope cl C X.env) fp) tg (LGw (pk X G) PV W0 (own.map (·.2)) g)) (ht : ∀ (s : Shared) (H : Hp) (C : Addr) (cl : List (Str × Addr)) (fp : List Addr), PTs (X.blk s H scope (compEnvC scope cl C X.env) fp) ifs (LT (pk X G) PV W0 t))
    (hi1 : ∀ (s : Shared) (H : Hp) (C : Addr) (cl : List (Str × Addr)) (fp : List Addr), PI (X.blk s H scope (compEnvC scope cl C X.env) fp) tg1 iter1 (LI (pk X G) PV W0 fi1))
    (hg1 : ∀ (s : Shared) (H : Hp) (C : Addr) (cl : List (Str × Addr)) (fp : List Addr), PG (X.blk s H scope (compEnvC scope cl C X.env) fp) tg1 (LGw (pk X G) PV W0 vs1 g1)) (ht1 : ∀ (s : Shared) (H : Hp) (C : Addr) (cl : List (Str × Addr)) (fp : List Addr), PTs (X.blk s H scope (compEnvC scope cl C X.env) fp) ifs1 (LT (pk X G) PV W0 t1))
    (he : ∀ (s : Shared) (H : Hp) (C : Addr) (cl : List (Str × Addr)) (fp : List Addr), PE (X.blk s H scope (compEnvC scope cl C X.env) fp) elt (LD (pk X G) PV W0 e)) (hs : ∀ x, foldedSetIterable iter X.env x = pure x := by intro _; rfl) (hs1 : ∀ env x, foldedSetIterable iter1 env x = pure x := by intro _ _; rfl) :
    PE X (.ListComp elt [⟨tg, iter, ifs, 0⟩, ⟨tg1, iter1, ifs1, 0⟩] scope pos) (LE (pk X G) PV W (eLc2 (own.map (·.2)) vs1 fi g t fi1 g1 t1 e)) :=
  PEi (pe_lc2 hc hN hi ok hv hg ht hi1 hg1 ht1 he hs hs1) (lc2_imp hv)
theorem ds_setLc2 {i : Nat} {y : Str} {py spos : Pos} (hc : X.calm = true) (hN : X.N.Nodup) (hy : X.N[i]? = some y) (hyl : X.env.scope.names.lookup y = some .local)
    (hsw : swapsWith (.ListComp elt [⟨tg, iter, ifs, 0⟩, ⟨tg1, iter1, ifs1, 0⟩] scope pos) (some (.Name y py)) spos.line X.env = pure true) (hi : PI X tg iter (LI (pk X G) PV W fi)) (ok : BlkOk X.N X.env.scope scope own) (hv : ∀ i ∈ vs1, i ∈ own.map (·.2))
    (hg : ∀ (s : Shared) (H : Hp) (C : Addr) (cl : List (Str × Addr)) (fp : List Addr), PG (X.blk s H scope (compEnvC scope cl C X.env) fp) tg (LGw (pk X G) PV W0 (own.map (·.2)) g)) (ht : ∀ (s : Shared) (H : Hp) (C : Addr) (cl : List (Str × Addr)) (fp : List Addr), PTs (X.blk s H scope (compEnvC scope cl C X.env) fp) ifs (LT (pk X G) PV W0 t))
    (hi1 : ∀ (s : Shared) (H : Hp) (C : Addr) (cl : List (Str × Addr)) (fp : List Addr), PI (X.blk s H scope (compEnvC scope cl C X.env) fp) tg1 iter1 (LI (pk X G) PV W0 fi1))
    (hg1 : ∀ (s : Shared) (H : Hp) (C : Addr) (cl : List (Str × Addr)) (fp : List Addr), PG (X.blk s H scope (compEnvC scope cl C X.env) fp) tg1 (LGw (pk X G) PV W0 vs1 g1)) (ht1 : ∀ (s : Shared) (H : Hp) (C : Addr) (cl : List (Str × Addr)) (fp : List Addr), PTs (X.blk s H scope (compEnvC scope cl C X.env) fp) ifs1 (LT (pk X G) PV W0 t1))
    (he : ∀ (s : Shared) (H : Hp) (C : Addr) (cl : List (Str × Addr)) (fp : List Addr), PE (X.blk s H scope (compEnvC scope cl C X.env) fp) elt (LD (pk X G) PV W0 e)) (hs : ∀ x, foldedSetIterable iter X.env x = pure x := by intro _; rfl) (hs1 : ∀ env x, foldedSetIterable iter1 env x = pure x := by intro _ _; rfl) :
    PS X (.Assign [.Name y py] (.ListComp elt [⟨tg, iter, ifs, 0⟩, ⟨tg1, iter1, ifs1, 0⟩] scope pos) spos) (LS (pk X G) PV W (sAsg (eLc2 (own.map (·.2)) vs1 fi g t fi1 g1 t1 e) (put i))) :=
  PSi (ps_setLc2 hc hN hy hyl hsw hi ok hv hg ht hi1 hg1 ht1 he hs hs1) fun D σ H h => lc2_imp hv σ H _ (les_bind h fun z0 z v e h0 S0 x S r A => by
    have A := accU_of A
    cases hp : put i e z.ρ z.s with
    | no => rw [hp] at A; exact A.elim
    | ex c ns vs ρ s => exact (put_no hp).elim
    | ok u ρ s =>
      rw [hp] at A
      obtain ⟨rfl, h1, h2⟩ := put_ok S0 x S r hp
      exact A _ z.F z.H z.m h2 h1)
end
end DL
set_option Elab.async false
set_option linter.all false
set_option maxRecDepth 100000
set_option maxHeartbeats 4000000
/-! DL49: isinstance(e, EarlierError) in a clause, e an own error with fields. -/
namespace DL
open PySem PySem.Spec PySem.Calls PySem.W PyProof.Rows L2
section
variable {prog : Program} {w : World} {A : Around} {E : Value → Shared → Prop} {s : Shared} {K : PySem.W.Frag} {x D : Addr} {ox : Obj} {od : Option Obj}
theorem fo_data {C : Addr} {nm : Str} {v g : Value} (hc : (clsIn K C).isSome = true) (ha : findIn K (.ref C) nm = some (some v)) (hg : specialIn K v "__get__" = some (some g)) (ht : takesIn K v = some true) :
    findObj K C od nm = some (.bind g v) := by
  obtain ⟨cd, q⟩ := Option.isSome_iff_exists.mp hc
  unfold findObj
  rw [q, Option.bind_some, ha, Option.bind_some]
  simp [hg, ht]
theorem exc_class {Q : Option Value → Shared → Prop} (c : ExcC K D) (X : K.In s.heap) (I : InstAt s.heap x ox D od) (h : Q (some (.ref D)) { s with toks := s.toks + 1 }) :
    wpAny (model prog w) A (getAttr? (.ref x) "__class__") Q E s := by
  have hs : (clsIn K D).isSome = true := by
    obtain ⟨cd, q, _⟩ := any_some c.hd
    rw [q]
    rfl
  have hf := fo_data (od := od) hs c.ha c.hn c.ht
  obtain ⟨hp, g, d, t, os⟩ := s
  have T0 := I.type (M := model prog w)
  have T1 := looks_findIn (M := model prog w) X c.hg
  have T2 := looks_findIn (M := model prog w) X c.hk
  have T3 := looks_find (M := model prog w) X I hf
  have sub : Looks (model prog w) hp (isInstance (.ref x) (.type "BaseException")) true := T0.andThen (looks_subIn X c.hs)
  have e0 : (false && onTheHeap (Value.builtin "BaseException.__getattribute__")) = false := rfl
  have e2 : (Value.builtin "BaseException.__getattribute__" == Value.builtin "object.__getattribute__") = false := by decide +kernel
  have e1 : (onTheHeap (Value.ref D) && Value.builtin "BaseException.__getattribute__" == Value.builtin "object.__getattribute__") = false := (congrArg _ e2).trans (Bool.and_false _)
  unfold getAttr? getAttrBy? getAttrBy
  refine wpAny_bind (wpAny_mkText (wpAny_bind (wpAny_attempt (wpAny_holding (wpAny_bind (T0.at (wpAny_bind (T1.at ?_))))))))
  show wpAny _ _ (if (onTheHeap (Value.ref D) && Value.builtin "BaseException.__getattribute__" == Value.builtin "object.__getattribute__") = true then _ else _) _ _ _
  rw [e1, if_neg Bool.false_ne_true]
  unfold getAttrByItsOwn hookBefore
  refine wpAny_bind ?_
  rw [if_pos (show onTheHeap (Value.ref D) = true from rfl)]
  refine T2.at (wpAny_bind (wpAny_attempt (wpAny_holding ?_)))
  unfold callGetattribute
  rw [e0, if_neg Bool.false_ne_true]
  unfold boundAndCalled
  rw [PySem.F.excAttr_ValueError.ga.bind (.ref x)]
  refine wpAny_bind (wpAny_pure ?_)
  show wpAny _ _ (call (.builtin "BaseException.__getattribute__") [.ref x, .str "__class__" t]) _ _ _
  refine wpAny_call (codeAny_call_builtin PySem.F.excAttr_ValueError.ga.plain PySem.F.entry_bexc_ga ?_)
  refine @check_slot (model prog w) _ _ ⟨hp, g, d, t + 1, os⟩ "BaseException.__getattribute__" "BaseException" "__getattribute__" (.ref x) [.str "__class__" t] [] _ (by decide +kernel) (by decide +kernel) sub (PySem.F.args_bexc_ga (.ref x) (.str "__class__" t)) ?_
  unfold Builtin.«object.__getattribute__»
  refine wpAny_bind (wpAny_of_eq (a := ((Value.ref x : Value), [Value.str "__class__" t])) (by first | rfl | (simp only [slotArgs]; rfl)) ?_)
  refine wpAny_bind (wpAny_pure (wpAny_bind (T0.at (wpAny_bind (T3.at ?_)))))
  show wpAny _ _ (holding [Value.builtin "object.__class__"] (call (.builtin "getset_descriptor.__get__") [.builtin "object.__class__", .ref x, .ref D]) >>= ret) _ _ _
  refine wpAny_bind (wpAny_holding (wpAny_call (class_get (s := ⟨hp, g, d, t + 1, os⟩) (ox := ox) (od := od) X I c.hm (wpAny_pure ?_))))
  show wpAny _ _ (handedOut (.ref D)) _ _ _
  rw [handedOut_of (v := .ref D) rfl]
  first
    | exact wpAny_pure (wpAny_pure h)
    | exact wpAny_pure h
    | exact wpAny_pure (wpAny_bind (wpAny_pure (wpAny_pure h)))
theorem exc_kit (c : ExcC K D) : KitX K (.ref x) (.ref D) (fun h => InstAt h x ox D od) where
  ty := fun _ _ _ I => I.type
  it := fun _ _ X _ => by
    obtain ⟨cd, q, _⟩ := any_some c.hd
    unfold clsIn at q
    split at q
    · rename_i c' d' cd' sl' ho
      intro A' Q' E' s' k r
      unfold isType loadHead
      exact wpAny_bind (wpAny_loadPart (k _ _ (X _ _ ho)) (wpAny_pure r))
    · cases q
  ne := fun h tp dd its n sl X htp => by
    obtain ⟨cd, q, _⟩ := any_some c.hd
    refine Bool.eq_false_iff.mpr fun r => ?_
    obtain rfl : D = tp := Value.ref.inj (beq_iff_eq.mp r)
    unfold clsIn at q
    split at q
    · rename_i c' d' cd' sl' ho
      cases (X _ _ ho).symm.trans htp
    · cases q
  ca := fun X I k => exc_class c X I k
end
/-- what isinstance asks of the errors that a clause holds -/
structure XsIs (K : PySem.W.Frag) (G : Str → Addr) (xs : List Str) : Prop where
  ex : ∀ c ∈ xs, ExcC K (G c)
  one : ∀ c ∈ xs, PySem.W.kitOne K (.ref (G c)) (.ref (G "EarlierError")) = some true
section
variable {X : Cx} {G : Str → Addr} {xs : List Str} {i : Nat} {a : Addr} {oe : Obj} {cls : Value} {d : Option Addr} {pn : List (Addr × Obj)} {es : List Expr} {its : List HI} {n : Str} {p p2 p3 pos : Pos}
theorem call_isX (XI : XsIs X.K G xs) (hz : Zc cls d oe) (hf : ∃ vs, oe.data = .fields vs) : CallR (X.suite a ((a, oe) :: pn)) (.builtin "isinstance") (fun us H Q => (∃ c, c ∈ xs ∧ cls = .ref (G c)) ∧ (∀ dd, d = some dd → ∃ fs, H dd = some (.xd fs)) ∧ us = [.ref a, .ref (G "EarlierError")] ∧ Q (.bl true) H) := by
  intro pins s σ H vs us Q I r h
  obtain ⟨⟨c, hc, rfl⟩, hd, rfl, q⟩ := h
  cases r with
  | cons rx rr =>
    cases rr with
    | cons rt rr =>
      cases rr
      cases rx
      cases rt
      obtain ⟨hget, _⟩ := I.pin (a, oe) (List.mem_append.mpr (.inl List.mem_cons_self))
      obtain ⟨vs, hv⟩ := hf
      have J : ∃ od, PySem.W.InstAt s.heap a oe (G c) od := by
        obtain ⟨oc, od, oda, osl⟩ := oe
        obtain ⟨h1, h2⟩ := hz
        dsimp only at h1 h2 hv
        subst h1 h2 hv
        cases od with
        | none => exact ⟨none, hget, rfl, rfl, trivial⟩
        | some dd =>
          obtain ⟨fs, hx⟩ := hd dd rfl
          have hx : ObjOk X.prog X.w H s.heap dd (.xd fs) := I.hok dd _ hx
          obtain ⟨mA, ⟨o, _, _, ho, _⟩, _⟩ := hx
          exact ⟨some o, hget, rfl, rfl, ho⟩
      obtain ⟨od, J⟩ := J
      exact PySem.W.kia_one (exc_kit (XI.ex c hc)) I.kIn J (XI.one c hc) (fun z => nomatch z) fun tk => ⟨.bl true, H, I.kept (t' := tk) fun _ _ z => z, rfl, q⟩
theorem ph_isE (XI : XsIs X.K G xs) (hm : X.mg "isinstance" = none) (XO : XsOk X.K X.mg G xs) (hz : Zc cls d oe) (hfl : ∃ vs, oe.data = .fields vs) (he : PE (X.suite a ((a, oe) :: pn)) (.Name n p) (tVar i))
    (hr : PA (X.suite a ((a, oe) :: pn)) es (tHI G xs i a cls d its)) (hg : Gl (X.suite a ((a, oe) :: pn)) "isinstance" := by rfl) (hg2 : Gl (X.suite a ((a, oe) :: pn)) "EarlierError" := by rfl)
    (hs0 : starEach [Expr.Name n p, .Name "EarlierError" p2] (X.suite a ((a, oe) :: pn)).env = (false, eval (Expr.Name n p) (X.suite a ((a, oe) :: pn)).env) :: starEach [.Name "EarlierError" p2] (X.suite a ((a, oe) :: pn)).env := by rfl)
    (hs2 : starEach [Expr.Name "EarlierError" p2] (X.suite a ((a, oe) :: pn)).env = (false, eval (Expr.Name "EarlierError" p2) (X.suite a ((a, oe) :: pn)).env) :: starEach [] (X.suite a ((a, oe) :: pn)).env := by rfl)
    (hpl : (backTo pos (starEach [Expr.Name "EarlierError" p2] (X.suite a ((a, oe) :: pn)).env)).any (·.1) = false := by rfl)
    (hs : starEach (Expr.Call (.Name "isinstance" p3) [.Name n p, .Name "EarlierError" p2] [] pos :: es) (X.suite a ((a, oe) :: pn)).env = (false, eval (Expr.Call (.Name "isinstance" p3) [.Name n p, .Name "EarlierError" p2] [] pos) (X.suite a ((a, oe) :: pn)).env) :: starEach es (X.suite a ((a, oe) :: pn)).env := by rfl) :
    PA (X.suite a ((a, oe) :: pn)) (Expr.Call (.Name "isinstance" p3) [.Name n p, .Name "EarlierError" p2] [] pos :: es) (tHI G xs i a cls d (.bl true :: its)) :=
  ph_cons (pe_callB (call_isX XI hz hfl) hg hm (by decide +kernel) (pa_cons he (pa_cons (pe_glob hg2 (XO.mg "EarlierError" List.mem_cons_self) (v := .ref (G "EarlierError")) rfl (by decide)) pa_nil hs2) hs0) (by decide) (by decide) hs0 hpl)
    (fun σ H Q h1 h2 h0 fs u h3 e q => by cases e; exact ⟨.ref a, h1, h2, h0, rfl, q⟩) hr hs
end
end DL
set_option Elab.async false
set_option linter.all false
set_option maxRecDepth 100000
set_option maxHeartbeats 4000000
/-! DL50: dict displays with text keys and any values. -/
namespace DL
open PySem L2 PySem.Spec PyProof.Rows
def aL : List (M D) → M (List D)
  | [] => aNil
  | f :: fs => aCons f (aL fs)
theorem aL_cons_bind {γ : Type} {f : M D} {fs : List (M D)} {k : List D → M γ} : M.bind (aL (f :: fs)) k = M.bind f fun d => M.bind (aL fs) fun ds => k (d :: ds) := by
  show M.bind (M.bind f fun d => M.bind (aL fs) fun ds => M.pure (d :: ds)) k = _
  rw [bind_assoc]
  refine congrArg _ (funext fun d => ?_)
  rw [bind_assoc]
  rfl
def kS (ks : List Str) : List Key := ks.map Sum.inr
def eDisp (ks : List Str) (fds : List (M D)) : M E := fun ρ s => lcR [] ρ (fun ds => Cl.dk (kS ks) ds) (M.bind (aL fds) (fun ds => M.pure ds) ρ s)
section
variable {P : Par} {PV : List V} {W : WX} {σ : L2.St} {z1 : Z} {p : Addr} {c : Cl} {γ : Type} {F : γ → Cl} {Q : VK}
theorem tPairs_d : ∀ (q : List (Str × M D)) {z : Z} {kk : List D → M γ} {R : List (V × V) → Hp → Prop}, SR P PV σ z1 → Blk P PV σ [] z1 p c z → Acc P PV W σ z1 (erel P σ z1.H) (lcR [] z1.ρ F (M.bind (aL (q.map (·.2))) kk z.ρ z.s)) Q →
    (∀ (z3 : Z) (ds : List D) (vs : List V), EX σ z σ z3 → Blk P PV σ [] z1 p c z3 → RepL P z3.F z3.m vs ds → vs.length = q.length → Acc P PV W σ z1 (erel P σ z1.H) (lcR [] z1.ρ F (kk ds z3.ρ z3.s)) Q → R (((q.map (·.1)).zip vs).map fun kv => (V.str kv.1, kv.2)) z3.H) →
    tPairs (q.map fun q => (tC (.str q.1), LD P PV W0 q.2)) σ z.H R
  | [], z, kk, R, S1, B, A, h => h z [] [] EX.refl B .nil rfl A
  | (k, f) :: r, z, kk, R, S1, B, A, h => by
    have A1 : Acc P PV W σ z1 (erel P σ z1.H) (lcR [] z1.ρ F (M.bind (aL (f :: r.map (·.2))) kk z.ρ z.s)) Q := A
    rw [aL_cons_bind] at A1
    show LD P PV W0 f σ z.H fun y H2 => tPairs (r.map fun q => (tC (.str q.1), LD P PV W0 q.2)) σ H2 fun ps H3 => R ((V.str k, y) :: ps) H3
    refine ⟨z, rfl, B.sr, sub_ok A1 fun y F4 H4 m4 dy ρ4 s4 x4 S4 ry A4 => ?_⟩
    have B4 := (B.step S1 x4 S4 rfl).1
    refine tPairs_d r (z := ⟨F4, H4, m4, ρ4, s4⟩) S1 B4 A4 fun z3 ds vs x3 B3 l hl A3 => ?_
    have ry : Rep P F4 m4 y dy := ry
    exact h z3 (dy :: ds) (y :: vs) (x4.trans B.sr x3) B3 (.cons (x3.rep ry) l) (by simp [hl]) A3
end
section
variable {X : Cx} {G : Str → Addr} {PV : List V} {W : WX} {keys : List (Option Expr)} {values : List Expr} {pos : Pos}
theorem de_dispS (ks : List Str) (fds : List (M D)) (h : PPs X pos keys values ((ks.zip fds).map fun q => (tC (.str q.1), LD (pk X G) PV W0 q.2))) (hlen : ks.length = fds.length := by rfl) (hm : ∀ vs : List V, vs.length = ks.length → mergeK [] ((kS ks).zip vs) = (kS ks).zip vs) (h15 : ks.length ≤ 15 := by decide)
    (hall : keys.all (·.isSome) = true := by rfl) (hl : keys.length = values.length := by rfl) (h0 : keys ≠ [] := by intro h; cases h) (hk : keys.length ≤ 15 := by decide) :
    PE X (.Dict keys values pos) (LE (pk X G) PV W (eDisp ks fds)) :=
  PEi (pe_disp h hall hl h0 hk) fun σ H Q ⟨z, e, S, A⟩ => by
    subst e
    intro p hp
    have e1 : (ks.zip fds).map (·.1) = ks := List.map_fst_zip (Nat.le_of_eq hlen)
    have e2 : (ks.zip fds).map (·.2) = fds := List.map_snd_zip (Nat.le_of_eq hlen.symm)
    have B0 : Blk (pk X G) PV σ [] z p (.dk [] []) ⟨z.F, upd z.H p (.dK []), z.m, z.ρ, z.s⟩ := Blk.start S hp ⟨[], rfl, upd_same, .nil⟩
    refine tPairs_d (F := fun ds => Cl.dk (kS ks) ds) (kk := fun ds => M.pure ds) (Q := Q) (W := W) (ks.zip fds) S B0 (by rw [e2]; exact A) fun z3 ds vs x3 B3 l hv A3 => ?_
    rw [e1]
    have hv : vs.length = ks.length := by rw [hv, List.length_zip, ← hlen, Nat.min_self]
    obtain ⟨ws, _, h3, _⟩ := B3.hc
    refine ⟨by rw [h3] <;> rfl, (kS ks).zip vs, ?_, ?_, ?_⟩
    · show ((ks.zip vs).map fun kv => (V.str kv.1, kv.2)) = ((ks.map Sum.inr).zip vs).map fun kv => (kV kv.1, kv.2)
      rw [List.zip_map_left, List.map_map]
      rfl
    · rw [List.length_zip, hv]
      show min (ks.map Sum.inr).length ks.length ≤ 15
      rw [List.length_map, Nat.min_self]
      exact h15
    · rw [hm vs hv]
      have B4 := B3.write hp (o := .dK ((kS ks).zip vs)) (c' := .dk (kS ks) ds) ⟨vs, by show (ks.map Sum.inr).length = vs.length; rw [List.length_map, hv], upd_same, l⟩
      exact B4.done S hp A3
end
end DL
set_option Elab.async false
set_option linter.all false
set_option maxRecDepth 100000
set_option maxHeartbeats 4000000
/-! DL51: == of a tuple and a dict, of a dict with itself. -/
namespace DLq
open PySem PySem.SeqAt PySem.Spec PyProof.Rows
open AutoSeq1 (wpAny_loadPart')
theorem tup_dct (l b : Addr) (it : Array Value) (es : Array DictEntry) (n n2 : Nat) (dd dd2 : Option Addr) (sl sl2 : Array (Option Value)) :
    Meets (Builtin.«tuple.__eq__» ⟨[.ref l, .ref b], []⟩) (fun _ R s => s.heap.get? l = some { cls := .type "tuple", dict := dd, data := .seq it n, slots := sl } ∧ s.heap.get? b = some { cls := .type "dict", dict := dd2, data := .dict es n2, slots := sl2 } ∧ R (.ok (.ret .notImplemented)) s) :=
  .of_wp fun prog w A R s h => by
    obtain ⟨hp, g, d, tk, os⟩ := s
    obtain ⟨hl, hb, h⟩ := h
    have f1 := F.sub_dict_tuple
    wp_walk using wpAny_loadPart' hl, wpAny_loadPart' hb
    exact ⟨_, rfl, h⟩
theorem dct_tup (l b : Addr) (it : Array Value) (es : Array DictEntry) (n n2 : Nat) (dd dd2 : Option Addr) (sl sl2 : Array (Option Value)) :
    Meets (Builtin.«dict.__eq__» ⟨[.ref b, .ref l], []⟩) (fun _ R s => s.heap.get? l = some { cls := .type "tuple", dict := dd, data := .seq it n, slots := sl } ∧ s.heap.get? b = some { cls := .type "dict", dict := dd2, data := .dict es n2, slots := sl2 } ∧ R (.ok (.ret .notImplemented)) s) :=
  .of_wp fun prog w A R s h => by
    obtain ⟨hp, g, d, tk, os⟩ := s
    obtain ⟨hl, hb, h⟩ := h
    have f1 := F.sub_tuple_dict
    wp_walk using wpAny_loadPart' hl, wpAny_loadPart' hb
    exact ⟨_, rfl, h⟩
end DLq
namespace DL
open PySem L2 PySem.Spec PyProof.Rows
def rEqTD (K : PySem.W.Frag) : R2 := fun x y H Q => ∃ a b xs kvs, x = .ref a ∧ y = .ref b ∧ SqT K H a xs ∧ H b = some (.dK kvs) ∧ Q (.bl false) H
theorem op_eqTD {X : Cx} (hu : X.A.units < cLine) : OpR X (compareOp .Eq) (rEqTD X.K) := by
  intro pins s σ H x y v u Q I rx ry h
  obtain ⟨a, b, xs, kvs, rfl, rfl, ha, hb, q⟩ := h
  cases (show v = Value.ref a from rx)
  cases (show u = Value.ref b from ry)
  obtain ⟨its, r, ⟨⟨cls, dd, data, sl⟩, ho, hc, n, hd⟩, hz⟩ := I.tuple ha
  obtain ⟨_, _, vs, kv, ⟨⟨cls2, dd2, data2, sl2⟩, es, n2, ho2, ⟨hc2, hd0, hs0⟩, hd2, _⟩⟩ := (show ObjOk X.prog X.w H s.heap b (.dK kvs) from I.hok b _ hb)
  simp only at hc hd hc2 hd2
  subst hc hd hc2 hd2
  have ta : s.TypeIs (.ref a) "tuple" := ⟨_, ho, rfl⟩
  have tb : s.TypeIs (.ref b) "dict" := ⟨_, ho2, rfl⟩
  have hne : a ≠ b := fun e => by
    subst e
    have q := congrArg (fun o : Option Obj => o.map (·.cls)) (ho.symm.trans ho2)
    exact absurd (Value.type.inj (Option.some.inj q)) (by decide)
  exact PySem.SeqAt.rc_eq_decline_or (k := false) ta tb (by decide) PySem.F.sub_dict_tuple PySem.F.slot_tuple_eq PySem.F.slot_dict_eq_refl
    (fun _ hq => call_meets PySem.F.slot_tuple_eq ta PySem.F.entry_tuple_eq (PySem.F.args_tuple_eq_2 _ _) (DLq.tup_dct a b _ _ _ _ _ _ _ _) ⟨ho, ho2, hq⟩)
    (fun _ hq => call_meets PySem.F.slot_dict_eq_refl tb PySem.F.entry_dict_eq (PySem.F.args_dict_eq_2 _ _) (DLq.dct_tup a b _ _ _ _ _ _ _ _) ⟨ho, ho2, hq⟩)
    (fun _ hq => PySem.SeqAt.wpAny_isSame_ref_other' hne ho ho2 (by simp) hq) (.inr hu) ⟨.bl false, H, I, rfl, q⟩
def tdE (a b : E) (s : List Cl) : Bool := match a, b with
  | .v (.tup _), .v (.ref j) => match s[j]? with
    | some (.dk _ _) => true
    | _ => false
  | _, _ => false
def ddE (a b : E) (s : List Cl) : Bool := match a, b with
  | .v (.ref i), .v (.ref j) => i == j && match s[j]? with
    | some (.dk ks ds) => decide ks.Nodup && ds.all flatD
    | _ => false
  | _, _ => false
def gEqW (a b : E) : M E := fun ρ s => if tdE a b s = true then .ok (.v (.bl false)) ρ s else if ddE a b s = true then .ok (.v (.bl true)) ρ s else gEq a b ρ s
theorem flat_rep {P : Par} {F : Hp} {m : List Addr} {v : V} {d : D} (r : Rep P F m v d) (h : flatD d = true) : flatB v = true := by
  cases r <;> first | rfl | cases h
theorem valV_zip {ks : List Key} : ∀ {vs : List V}, ks.Nodup → ks.length = vs.length → ∀ p ∈ ks.zip vs, valV (ks.zip vs) p.1 = some p.2 := by
  induction ks with
  | nil => intro vs _ _ p h; cases h
  | cons k ks ih =>
    intro vs hn hl p h
    cases vs with
    | nil => cases hl
    | cons v vs =>
      have hn' := List.nodup_cons.mp hn
      rw [List.zip_cons_cons] at h ⊢
      unfold valV
      rcases List.mem_cons.mp h with e | e
      · subst e
        simp
      · have hk : p.1 ≠ k := fun q => by
          have := List.of_mem_zip (show (p.1, p.2) ∈ ks.zip vs from e)
          exact hn'.1 (by rw [← q]; exact this.1)
        have := ih hn'.2 (by simpa using hl) p e
        unfold valV at this
        rw [List.find?_cons]
        rw [show decide ((k, v).1 = p.1) = false from decide_eq_false fun q => hk q.symm]
        exact this
theorem repL_zip {P : Par} {F : Hp} {m : List Addr} {ks : List Key} : ∀ {vs : List V} {ds : List D}, RepL P F m vs ds → ds.all flatD = true → ∀ p ∈ ks.zip vs, flatB p.2 = true := by
  intro vs ds l
  induction ks generalizing vs ds with
  | nil => intro _ p h; cases h
  | cons k ks ih =>
    intro ha p h
    cases l with
    | nil => cases h
    | cons r l =>
      rw [List.all_cons, Bool.and_eq_true] at ha
      rw [List.zip_cons_cons] at h
      rcases List.mem_cons.mp h with e | e
      · subst e; exact flat_rep r ha.1
      · exact ih l ha.2 p e
theorem opd_eqW {P : Par} {PV : List V} {W : WX} {K : PySem.W.Frag} (hK : P.K = K) : OpD P PV W gEqW (fun x y H Q => ((rEq x y H Q ∨ rEqD K x y H Q) ∨ rEqTD K x y H Q) ∨ rEqV K x y H Q) := by
  intro σ z H1 H2 x y a b Q S ra rb A
  unfold gEqW at A
  split at A
  · rename_i h
    unfold tdE at h
    split at h
    · rename_i ds j
      split at h
      · rename_i ks es hs
        obtain ⟨p, vs, rfl, h1, _⟩ := ra.tup S
        cases rb with
        | ref hm =>
          obtain ⟨ws, _, h2, _⟩ := (S.cl _ _ _ hm hs).2
          subst hK
          exact .inl (.inr ⟨p, _, vs, _, rfl, rfl, h1, h2, acc_val S (.bl _) A⟩)
      · cases h
    · cases h
  · split at A
    · rename_i h
      unfold ddE at h
      split at h
      · obtain ⟨h1, h2⟩ := Bool.and_eq_true_iff.mp h
        have h1 := eq_of_beq h1
        subst h1
        split at h2
        · rename_i ks es hs
          obtain ⟨h3, h4⟩ := Bool.and_eq_true_iff.mp h2
          cases ra with
          | ref ha =>
            cases rb with
            | ref hb =>
              have e := ha.symm.trans hb
              cases e
              obtain ⟨ws, hl, h5, l⟩ := (S.cl _ _ _ ha hs).2
              have hz := valV_zip (of_decide_eq_true h3) hl
              exact .inr ⟨1, by decide, .inr ⟨_, _, ks.zip ws, ks.zip ws, rfl, rfl, h5, h5, rfl, fun p hp => ⟨p.2, hz p hp, .inl ⟨rfl, repL_zip l h4 p hp⟩⟩⟩, acc_val S (.bl _) A⟩
        · cases h2
      · cases h
    · exact .inl (.inl (opd_eq hK σ z H1 H2 x y a b Q S ra rb A))
section
variable {X : Cx} {G : Str → Addr} {PV : List V} {W : WX} {a b : Expr} {fa fb : M E} {pos : Pos}
theorem de_eqW (hu : X.A.units + 64 < cLine) (ha : PE X a (LE (pk X G) PV W fa)) (hb : PE X b (LE (pk X G) PV W fb)) : PE X (.Compare a [.Eq] [b] pos) (LE (pk X G) PV W (eBin gEqW fa fb)) :=
  de_cmp (((op_eq.or (op_eqD hu)).or (op_eqTD (by omega))).or (op_eqV hu)) (opd_eqW rfl) ha hb (nomark _)
theorem dt_eqW (hu : X.A.units + 64 < cLine) (ha : PE X a (LE (pk X G) PV W fa)) (hb : PE X b (LE (pk X G) PV W fb)) : PT X (.Compare a [.Eq] [b] pos) (LT (pk X G) PV W (tB (eBin gEqW fa fb))) :=
  dt_cmp (((op_eq.or (op_eqD hu)).or (op_eqTD (by omega))).or (op_eqV hu)) (opd_eqW rfl) ha hb (nomark _)
end
end DL
set_option Elab.async false
set_option linter.all false
set_option maxRecDepth 100000
set_option maxHeartbeats 4000000
/-! printed by gen.py -/
namespace Lw
open PySem L2 DL PySem.Spec PyProof.Rows
def top (i : Nat) : Stmt := PySem.Challenge.pw_anyearlier_k02_cells_of_rows.main.body.getD i (.Pass ⟨0, 0, 0, 0⟩)
abbrev xcls : List Str := ["InvalidColumns", "InvalidColumn", "InvalidRow", "InvalidCell"]
abbrev cls : List Str := ["Form"]
def c_NO_NAMES : D := .kt [.str ("any" : Str), .str ("alike" : Str), .str ("unlike" : Str), .str ("less" : Str), .str ("most" : Str), .str ("more" : Str), .str ("least" : Str), .str ("all" : Str), .str ("some" : Str), .str ("not" : Str), .str ("none" : Str), .str ("if" : Str)]
def km_TURNED : List (Str × Str) := [(("<" : Str), (">" : Str)), (("=" : Str), ("=" : Str)), ((">" : Str), ("<" : Str))]
structure Txt (w : World) (K : PySem.W.Frag) (mg : Str → Option Value) (G : Str → Addr) : Prop where
  b_abs : mg "abs" = none
  b_all : mg "all" = none
  b_bool : mg "bool" = none
  b_dict : mg "dict" = none
  b_enumerate : mg "enumerate" = none
  b_int : mg "int" = none
  b_isinstance : mg "isinstance" = none
  b_len : mg "len" = none
  b_list : mg "list" = none
  b_max : mg "max" = none
  b_min : mg "min" = none
  b_range : mg "range" = none
  b_repr : mg "repr" = none
  b_set : mg "set" = none
  b_str : mg "str" = none
  b_sum : mg "sum" = none
  b_tuple : mg "tuple" = none
  b_zip : mg "zip" = none
  g_LETTERS : ∃ u, mg "LETTERS" = some u ∧ RelV (.str ("abcdefghijklmnopqrstuvwxyz" : Str)) u
  g_MOST_COLUMNS : ∃ u, mg "MOST_COLUMNS" = some u ∧ RelV (.int 4) u
  g_MOST_LETTERS : ∃ u, mg "MOST_LETTERS" = some u ∧ RelV (.int 8) u
  g_NO_NAMES : KtAt K mg "NO_NAMES" c_NO_NAMES
  k_bool : KitOk K G (kitT "bool" cls) (.type "bool")
  k_dict : KitOk K G (kitT "dict" cls) (.type "dict")
  k_int : KitOk K G (kitT "int" cls) (.type "int")
  k_list : KitOk K G (kitT "list" cls) (.type "list")
  k_list_tuple : KitsOk K G (kitTs ["list", "tuple"] cls) (["list", "tuple"].map Value.type)
  k_str : KitOk K G (kitT "str" cls) (.type "str")
  k_tuple : KitOk K G (kitT "tuple" cls) (.type "tuple")
  km_TURNED : KmAt K w mg "TURNED" km_TURNED
  xi : XsIs K G xcls
  xs : XsOk K mg G xcls
  n_given : ∀ c ∈ xcls, PySem.W.findIn K (.ref (G c)) "given" = some none
  a_columns : Attrs K G cls "columns"
  a_places : Attrs K G cls "places"
section
variable {P : Program} {w : World} {K : PySem.W.Frag} {mg : Str → Option Value} {base : Heap} {G : Str → Addr} {f : Addr} {fd : FuncData}
end
end Lw
set_option Elab.async false
set_option linter.all false
set_option maxRecDepth 100000
set_option maxHeartbeats 4000000
namespace Lw
open PySem L2 DL PySem.Spec PyProof.Rows
abbrev st_is_whole : Stmt := top 10
noncomputable def b_is_whole : M Fl := (sRet (eAndV (M.bind (eVar 0) (gIsi (kitT "int" cls))) (eNotV (M.bind (eVar 0) (gIsi (kitT "bool" cls))))))
noncomputable def d_is_whole : M E := fnE 1 b_is_whole

abbrev st_is_listed : Stmt := top 11
noncomputable def b_is_listed : M Fl := (sRet (M.bind (eVar 0) (gIsi (kitTs ["list", "tuple"] cls))))
noncomputable def d_is_listed : M E := fnE 1 b_is_listed

abbrev st_is_tuple_of : Stmt := top 12
noncomputable def b_is_tuple_of : M Fl := (sRet (eAndV (M.bind (eVar 0) (gIsi (kitT "tuple" cls))) (eBin gEq (M.bind (esCons (eVar 0) esNil) gLen) (eVar 1))))
noncomputable def d_is_tuple_of : M E := fnE 2 b_is_tuple_of

abbrev st_is_word : Stmt := top 13
noncomputable def b_is_word : M Fl := (sRet (eAndV (M.bind (eVar 0) (gIsi (kitT "str" cls))) (eAndV (eChain cLe cLe (eC (.int 1)) (M.bind (esCons (eVar 0) esNil) gLen) (eC (.int 8))) (M.bind (esCons (eLc [1] (itD (eVar 0)) (put 1) tYesD (M.bind (eBin (gIn false) (eVar 1) (eC (.str ("abcdefghijklmnopqrstuvwxyz" : Str)))) frz)) esNil) gAll))))
noncomputable def d_is_word : M E := fnE 2 b_is_word

abbrev st_is_name : Stmt := top 14
noncomputable def b_is_name : M Fl := (sRet (eAndV (M.bind (esCons (eFz (eVar 0)) esNil) (gCall 1 d_is_word)) (eBin (gIn true) (eVar 0) (eC c_NO_NAMES))))
noncomputable def d_is_name : M E := fnE 1 b_is_name

abbrev st_are_unlike : Stmt := top 15
noncomputable def b_are_unlike : M Fl := (sRet (eBin gEq (M.bind (eVar 0) gCnt) (M.bind (esCons (eVar 0) esNil) gLen)))
noncomputable def d_are_unlike : M E := fnE 1 b_are_unlike

abbrev st_are_unlike_names : Stmt := top 16
noncomputable def b_are_unlike_names : M Fl := (sSeq (sIf (tOr (tNot (tE (M.bind (esCons (eFz (eVar 0)) esNil) (gCall 1 d_is_listed)))) (tNot (tB (eChain cLe cLe (eVar 1) (M.bind (esCons (eVar 0) esNil) gLen) (eVar 2))))) (sRet (eC (.bl false))) sNx) (sRet (eAndV (M.bind (esCons (eLc [3] (itD (eVar 0)) (put 3) tYesD (M.bind (M.bind (esCons (eFz (eVar 3)) esNil) (gCall 1 d_is_name)) frz)) esNil) gAll) (M.bind (esCons (eFz (eVar 0)) esNil) (gCall 1 d_are_unlike)))))
noncomputable def d_are_unlike_names : M E := fnE 4 b_are_unlike_names

abbrev st_is_column : Stmt := top 21
noncomputable def b_is_column : M Fl := (sRet (eAndV (M.bind (eVar 1) (gIsi (kitT "str" cls))) (eBin (gIn false) (eVar 1) (M.bind (eVar 0) (gFld cls ("places" : Str))))))
noncomputable def d_is_column : M E := fnE 2 b_is_column

abbrev st_is_sign : Stmt := top 22
noncomputable def b_is_sign : M Fl := (sRet (eAndV (M.bind (eVar 0) (gIsi (kitT "str" cls))) (M.bind (eVar 0) (gInK false (km_TURNED.map (·.1))))))
noncomputable def d_is_sign : M E := fnE 1 b_is_sign

abbrev st_sign_of : Stmt := top 23
noncomputable def b_sign_of : M Fl := (sSeq (sIf (tB (eBin gEq (eVar 0) (eVar 1))) (sRet (eC (.str ("=" : Str)))) sNx) (sRet (eIf (tB (eBin cLt (eVar 0) (eVar 1))) (eC (.str ("<" : Str))) (eC (.str (">" : Str))))))
noncomputable def d_sign_of : M E := fnE 2 b_sign_of

abbrev st_cell_of : Stmt := top 24
noncomputable def b_cell_of : M Fl := (sRet (M.bind (esCons (eLc [2, 3] (M.bind (aCons (M.bind (eVar 0) frz) (aCons (M.bind (eVar 1) frz) aNil)) wZip) (unTup 2 (unCons (put 2) (unCons (put 3) unNil))) tYesD (M.bind (M.bind (esCons (eFz (eVar 2)) (esCons (eFz (eVar 3)) esNil)) (gCall 2 d_sign_of)) frz)) esNil) gTuple))
noncomputable def d_cell_of : M E := fnE 4 b_cell_of

abbrev st_cells_of : Stmt := top 25
noncomputable def b_cells_of : M Fl := (sSeq (sAsg (eFz (eLst (aCons (M.bind (eTup aNil) frz) aNil))) (put 1)) (sSeq (sFor (M.bind (aCons (M.bind (eVar 0) frz) aNil) wR1) (put 2) (sAsg (eLc2 [3, 4] [4] (itD (eVar 1)) (put 3) tYesD (M.pure (km_TURNED.map fun kv => D.str kv.1)) (put 4) tYesD (M.bind (eTup (aStar (eVar 3) (aCons (M.bind (eVar 4) frz) aNil))) frz)) (put 1))) (sRet (eVar 1))))
noncomputable def d_cells_of : M E := fnE 5 b_cells_of

abbrev st_all_cells : Stmt := top 28
noncomputable def b_all_cells : M Fl := (sRet (M.bind (esCons (eFz (M.bind (esCons (M.bind (eVar 0) (gFld cls ("columns" : Str))) esNil) gLen)) esNil) (gCall 1 d_cells_of)))
noncomputable def d_all_cells : M E := fnE 1 b_all_cells

abbrev st_turned : Stmt := top 29
noncomputable def b_turned : M Fl := (sSeq (sIf (tOr (tNot (tE (M.bind (eVar 0) (gIsi (kitT "tuple" cls))))) (tOr (tNot (tB (eChain cLe cLe (eC (.int 1)) (M.bind (esCons (eVar 0) esNil) gLen) (eC (.int 4))))) (tNot (tE (M.bind (esCons (eLc [2] (itD (eVar 0)) (put 2) tYesD (M.bind (M.bind (esCons (eFz (eVar 2)) esNil) (gCall 1 d_is_sign)) frz)) esNil) gAll))))) (sRaise "InvalidCell" "given" (M.bind (eVar 0) frz)) sNx) (sRet (M.bind (esCons (eLc [1] (itD (eVar 0)) (put 1) tYesD (M.bind (M.bind (eVar 1) (gItK km_TURNED)) frz)) esNil) gTuple)))
noncomputable def d_turned : M E := fnE 3 b_turned

abbrev st__law_cell : Stmt := top 31
noncomputable def b__law_cell : M Fl := (sRet (eIf (tB (eBin cLt (eVar 1) (M.bind (esCons (eVar 0) esNil) gLen))) (eBin gIx (eVar 0) (eVar 1)) (eBin gAdd (eBin (gI tMulW (· * ·)) (eC (.int 6089)) (eVar 1)) (eBin gMod (M.bind (esCons (eSl (eVar 0) oNo (oAt (eC (.int 1)))) esNil) gSum) (eC (.int 1000033))))))
noncomputable def d__law_cell : M E := fnE 2 b__law_cell

abbrev st__law_box : Stmt := top 32
noncomputable def b__law_box : M Fl := (sRet (eLst (aCons (M.bind (M.bind (esCons (eVar 0) esNil) gAbs) frz) (aCons (M.bind (eBin cGe (M.bind (esCons (eVar 0) esNil) gAbs) (eBin gPow (eC (.int 10)) (eC (.int 18)))) frz) (aCons (M.bind (eBin gMod (M.bind (esCons (M.bind (esCons (eVar 0) esNil) gAbs) esNil) gInt) (eC (.int 2147483629))) frz) (aCons (M.bind (eC (.int 0)) frz) aNil))))))
noncomputable def d__law_box : M E := fnE 1 b__law_box

abbrev st__law_take : Stmt := top 33
noncomputable def b__law_take : M Fl := (sSeq (sIf (tAnd (tE (eBin gIx (eVar 0) (eC (.int 1)))) (tB (eBin cGt (eBin gIx (eVar 0) (eC (.int 0))) (eC (.int 0))))) (sSeq (sAsg (eFz (eBin gMod (M.bind (esCons (eBin gIx (eVar 0) (eC (.int 0))) esNil) gInt) (eVar 1))) (put 3)) (sSeq (sAsg (eFz (eBin gFdiv (eBin gIx (eVar 0) (eC (.int 0))) (eVar 1))) (setIx (eVar 0) (eC (.int 0)))) (sRet (eVar 3)))) sNx) (sSeq (sAsg (eFz (eBin gAdd (eBin gIx (eVar 0) (eC (.int 3))) (eC (.int 1)))) (setIx (eVar 0) (eC (.int 3)))) (sSeq (sAsg (eFz (eBin gMod (M.bind (esCons (eBin gPow (eBin gAdd (eBin gAdd (eBin gIx (eVar 0) (eC (.int 2))) (eBin (gI tMulW (· * ·)) (eC (.int 15485863)) (eBin gIx (eVar 0) (eC (.int 3))))) (eC (.int 179424673))) (eC (.int 5))) esNil) gInt) (eC (.int 2147483647)))) (put 2)) (sRet (eBin gMod (eBin gFdiv (eBin gMod (M.bind (esCons (eBin gPow (eBin gAdd (eBin (gI tMulW (· * ·)) (eVar 2) (eC (.int 48271))) (eBin (gI tMulW (· * ·)) (eC (.int 104729)) (eBin gIx (eVar 0) (eC (.int 3))))) (eC (.int 3))) esNil) gInt) (eC (.int 2147483587))) (eC (.int 64))) (eVar 1))))))
noncomputable def d__law_take : M E := fnE 4 b__law_take

abbrev st__law_sign : Stmt := top 34
noncomputable def b__law_sign : M Fl := (sRet (eIf (tB (eBin cLt (eVar 0) (eVar 1))) (eC (.str ("<" : Str))) (eIf (tB (eBin gEq (eVar 0) (eVar 1))) (eC (.str ("=" : Str))) (eC (.str (">" : Str))))))
noncomputable def d__law_sign : M E := fnE 2 b__law_sign

abbrev st__law_all : Stmt := top 35
noncomputable def b__law_all : M Fl := (sSeq (sAsg (eFz (eLst (aCons (M.bind (eTup aNil) frz) aNil))) (put 1)) (sSeq (sFor (M.bind (aCons (M.bind (eVar 0) frz) aNil) wR1) (put 2) (sSeq (sAsg (eLst aNil) (put 3)) (sSeq (sFor (itD (eVar 1)) (put 4) (sDrop (eBm "list" oExtend (eVar 3) (aCons (M.bind (eLc [5] (itD (eC (.str ("<=>" : Str)))) (put 5) tYesD (M.bind (eBin gAdd (eVar 4) (eTup (aCons (M.bind (eVar 5) frz) aNil))) frz)) frz) aNil)))) (sAsg (eFz (eVar 3)) (put 1))))) (sRet (eVar 1))))
noncomputable def d__law_all : M E := fnE 6 b__law_all

abbrev st__law_back : Stmt := top 36
noncomputable def b__law_back : M Fl := (sRet (M.bind (esCons (eLc [1] (itD (eVar 0)) (put 1) tYesD (M.bind (eIf (tB (eBin gEq (eVar 1) (eC (.str ("<" : Str))))) (eC (.str (">" : Str))) (eIf (tB (eBin gEq (eVar 1) (eC (.str (">" : Str))))) (eC (.str ("<" : Str))) (eC (.str ("=" : Str))))) frz)) esNil) gTuple))
noncomputable def d__law_back : M E := fnE 2 b__law_back

abbrev st__law_whole : Stmt := top 37
noncomputable def b__law_whole : M Fl := (sSeq (sAsg (eFz (M.bind (esCons (eVar 0) (esCons (eC (.int 5)) esNil)) (gCall 2 d__law_take))) (put 1)) (sSeq (sIf (tB (eBin cLt (eVar 1) (eC (.int 3)))) (sRet (eBin gSub (M.bind (esCons (eVar 0) (esCons (eC (.int 9)) esNil)) (gCall 2 d__law_take)) (eC (.int 4)))) sNx) (sSeq (sAsg (eFz (eBin gAdd (eBin (gI tMulW (· * ·)) (M.bind (esCons (M.bind (esCons (eVar 0) (esCons (eFz (eBin gPow (eC (.int 10)) (eC (.int 20)))) esNil)) (gCall 2 d__law_take)) esNil) gInt) (eBin gPow (eC (.int 10)) (eC (.int 20)))) (M.bind (esCons (eVar 0) (esCons (eFz (eBin gSub (eBin gPow (eC (.int 10)) (eC (.int 20))) (eC (.int 9)))) esNil)) (gCall 2 d__law_take)))) (put 2)) (sRet (eBin gIx (eLst (aCons (M.bind (eVar 2) frz) (aCons (M.bind (M.bind (eVar 2) gNeg) frz) aNil))) (eBin gSub (eVar 1) (eC (.int 3))))))))
noncomputable def d__law_whole : M E := fnE 3 b__law_whole

abbrev st__law_near : Stmt := top 38
noncomputable def b__law_near : M Fl := (sSeq (sAsg (eLc [3] (itD (eVar 1)) (put 3) tYesD (M.bind (M.bind (esCons (eVar 0) (esCons (eC (.int 6)) esNil)) (gCall 2 d__law_take)) frz)) (put 2)) (sRet (M.bind (esCons (eLc [3, 4] (M.bind (aCons (M.bind (eVar 1) frz) (aCons (M.bind (eVar 2) frz) aNil)) wZip) (unTup 2 (unCons (put 3) (unCons (put 4) unNil))) tYesD (M.bind (eBin gAdd (eVar 3) (eBin gIx (eLst (aCons (M.bind (eC (.int 0)) frz) (aCons (M.bind (eC (.int 1)) frz) (aCons (M.bind (M.bind (eC (.int 1)) gNeg) frz) (aCons (M.bind (eC (.int 0)) frz) (aCons (M.bind (eC (.int 3)) frz) (aCons (M.bind (M.bind (eC (.int 7)) gNeg) frz) aNil))))))) (eVar 4))) frz)) esNil) gTuple)))
noncomputable def d__law_near : M E := fnE 5 b__law_near

abbrev st__law_no_row : Stmt := top 39
noncomputable def b__law_no_row : M Fl := (sSeq (M.bind (esCons (eFz (M.bind (esCons (eVar 0) (esCons (eFz (M.bind (esCons (eVar 1) esNil) gLen)) esNil)) (gCall 2 d__law_take))) (esCons (eFz (eBin gMod (M.bind (esCons (eBin gAdd (M.bind (esCons (eVar 0) (esCons (eC (.int 9)) esNil)) (gCall 2 d__law_take)) (eVar 2)) esNil) gInt) (eC (.int 9)))) esNil)) (parN [5, 6])) (sSeq (sAsg (eFz (eBin gIx (eLst (aCons (M.bind (eC (.bl true)) frz) (aCons (M.bind (eC .non) frz) (aCons (M.bind (eC (.str ("5" : Str))) frz) (aCons (M.bind (eTup (aCons (M.bind (eC (.int 5)) frz) aNil)) frz) (aCons (M.bind (eLst (aCons (M.bind (eC (.int 5)) frz) aNil)) frz) (aCons (M.bind (eC (.bl false)) frz) aNil))))))) (M.bind (esCons (eVar 0) (esCons (eC (.int 6)) esNil)) (gCall 2 d__law_take)))) (put 3)) (sSeq (sAsg (eFz (eLst (aCons (M.bind (M.bind (esCons (eVar 1) esNil) gList) refE) (aCons (M.bind (eBin gAdd (eVar 1) (eTup (aCons (M.bind (eC (.int 7)) frz) aNil))) frz) (aCons (M.bind (eSl (eVar 1) oNo (oAt (M.bind (eC (.int 1)) gNeg))) frz) (aCons (M.bind (M.bind (esCons (eLc [7, 8] (M.bind (aCons (M.bind (eVar 1) frz) aNil) wEnum) (unTup 2 (unCons (put 7) (unCons (put 8) unNil))) tYesD (M.bind (eIf (tB (eBin gEq (eVar 7) (eVar 5))) (eVar 3) (eVar 8)) frz)) esNil) gTuple) frz) aNil)))))) (put 4)) (sRet (eBin gIx (eBin gAdd (eVar 4) (eLst (aCons (M.bind (eC .non) frz) (aCons (M.bind (eBin gIx (eVar 1) (eC (.int 0))) frz) (aCons (M.bind (M.bind (esCons (eBin gIx (eVar 1) (eC (.int 0))) esNil) gStrI) frz) (aCons (M.bind (eDisp [("a" : Str)] [(M.bind (eBin gIx (eVar 1) (eC (.int 0))) frz)]) refE) (aCons (M.bind (eTup (aCons (M.bind (eVar 1) frz) aNil)) frz) aNil))))))) (eVar 6))))))
noncomputable def d__law_no_row : M E := fnE 9 b__law_no_row

abbrev st__law_very : Stmt := top 40
noncomputable def b__law_very : M Fl := (sSeq (sIf (tB (eBin gNe (M.bind (esCons (eVar 0) esNil) gRepr) (M.bind (esCons (eVar 1) esNil) gRepr))) (sRet (eC (.bl false))) sNx) (sSeq (sIf (tE (M.bind (eVar 1) (gIsi (kitT "list" cls)))) (sDrop (eBm "list" oInsert (eVar 1) (aCons (M.bind (eC (.int 0)) frz) (aCons (M.bind (eC (.str ("grown" : Str))) frz) aNil)))) sNx) (sSeq (sIf (tE (M.bind (eVar 1) (gIsi (kitT "dict" cls)))) (sDPutD (M.bind (eC (.int 1)) frz) (eVar 1) (eC (.str ("grown" : Str)))) sNx) (sRet (eBin gEq (M.bind (esCons (eVar 0) esNil) gRepr) (M.bind (esCons (eVar 1) esNil) gRepr))))))
noncomputable def d__law_very : M E := fnE 2 b__law_very

abbrev st__law_turned : Stmt := top 42
noncomputable def b__law_turned : M Fl := (sTry xcls (sRet (eLst (aCons (M.bind (eC (.str ("told" : Str))) frz) (aCons (M.bind (eIf (tB (eBin gEq (eVar 1) (eC (.int 0)))) (M.bind (esCons (eFz (eVar 0)) esNil) (gCall 1 d_turned)) (M.bind (M.bind (esCons (eFz (eVar 0)) esNil) (pickM [0] 1)) (gCall 1 d_turned))) frz) aNil)))) (("InvalidCell", (some 2), (hdL [.str ("cell" : Str), .fld ("given" : Str), .bl true])) :: []))
noncomputable def d__law_turned : M E := fnE 3 b__law_turned

abbrev st__law_turns_right : Stmt := top 44
noncomputable def b__law_turns_right : M Fl := (sSeq (sAsg (eFz (M.bind (esCons (eFz (eVar 1)) esNil) (gCall 1 d__law_all))) (put 3)) (sSeq (sAsg (eFz (eBin gIx (eVar 3) (M.bind (esCons (eVar 0) (esCons (eFz (M.bind (esCons (eVar 3) esNil) gLen)) esNil)) (gCall 2 d__law_take)))) (put 4)) (sSeq (M.bind (esCons (eFz (M.bind (esCons (eVar 0) (esCons (eFz (eVar 1)) esNil)) (gCall 2 d__law_take))) (esCons (eFz (M.bind (esCons (eVar 0) (esCons (eC (.int 10)) esNil)) (gCall 2 d__law_take))) esNil)) (parN [11, 12])) (sSeq (sAsg (eFz (eBin gIx (eLst (aCons (M.bind (eC (.str ("!" : Str))) frz) (aCons (M.bind (eC (.str ("" : Str))) frz) (aCons (M.bind (eC (.str ("<=" : Str))) frz) (aCons (M.bind (eC .non) frz) (aCons (M.bind (eC (.bl true)) frz) (aCons (M.bind (eC (.int 0)) frz) (aCons (M.bind (eTup (aCons (M.bind (eC (.str ("<" : Str))) frz) aNil)) frz) (aCons (M.bind (eLst (aCons (M.bind (eC (.str ("<" : Str))) frz) aNil)) frz) (aCons (M.bind (eC (.str ("==" : Str))) frz) aNil)))))))))) (M.bind (esCons (eVar 0) (esCons (eC (.int 9)) esNil)) (gCall 2 d__law_take)))) (put 5)) (sSeq (sAsg (eFz (M.bind (esCons (eLc [9, 14] (M.bind (aCons (M.bind (eVar 4) frz) aNil) wEnum) (unTup 2 (unCons (put 9) (unCons (put 14) unNil))) tYesD (M.bind (eIf (tB (eBin gEq (eVar 9) (eVar 11))) (eVar 5) (eVar 14)) frz)) esNil) gTuple)) (put 6)) (sSeq (sAsg (eFz (eSl (eBin gAdd (eVar 4) (eTup (aCons (M.bind (eC (.str ("<" : Str))) frz) (aCons (M.bind (eC (.str ("=" : Str))) frz) (aCons (M.bind (eC (.str (">" : Str))) frz) (aCons (M.bind (eC (.str ("<" : Str))) frz) aNil)))))) oNo (oAt (eC (.int 5))))) (put 7)) (sSeq (sAsg (eFz (eLst (aCons (M.bind (M.bind (esCons (eVar 4) esNil) gList) refE) (aCons (M.bind (eBm "str" oJoin (eC (.str ("" : Str))) (aCons (M.bind (eVar 4) frz) aNil)) frz) (aCons (M.bind (eVar 6) frz) (aCons (M.bind (eVar 7) frz) (aCons (M.bind (eTup aNil) frz) (aCons (M.bind (eC .non) frz) (aCons (M.bind (eTup (aCons (M.bind (eVar 4) frz) aNil)) frz) (aCons (M.bind (M.pure (.f (.dk [.inr ("<" : Str)] [.int 1]))) refE) (aCons (M.bind (eC (.int 3)) frz) (aCons (M.bind (M.bind (eVar 7) gRevT) frz) aNil)))))))))))) (put 8)) (sSeq (sFor (M.bind (aCons (M.bind (eC (.int 10)) frz) aNil) wR1) (put 9) (sSeq (sAsg (eFz (M.bind (esCons (eFz (eBin gIx (eVar 8) (eBin gMod (M.bind (esCons (eBin gAdd (eVar 12) (eVar 9)) esNil) gInt) (eC (.int 10))))) (esCons (eFz (eBin gMod (M.bind (esCons (eBin gAdd (eVar 2) (eVar 9)) esNil) gInt) (eC (.int 2)))) esNil)) (gCall 2 d__law_turned))) (put 13)) (sSeq (sIf (tOr (tB (eBin gNe (eBin gIx (eVar 13) (eC (.int 0))) (eC (.str ("cell" : Str))))) (tOr (tNot (tE (eBin gIx (eVar 13) (eC (.int 2))))) (tNot (tE (M.bind (esCons (eFz (eBin gIx (eVar 13) (eC (.int 1)))) (esCons (eBin gIx (eVar 8) (eBin gMod (M.bind (esCons (eBin gAdd (eVar 12) (eVar 9)) esNil) gInt) (eC (.int 10)))) esNil)) (gCall 2 d__law_very)))))) (sRet (eC (.bl false))) sNx) (sIf (tB (eBin gNe (M.bind (esCons (M.bind (esCons (eFz (eVar 4)) (esCons (eFz (eBin gMod (M.bind (esCons (eBin gAdd (eVar 2) (eVar 9)) esNil) gInt) (eC (.int 2)))) esNil)) (gCall 2 d__law_turned)) esNil) gRepr) (M.bind (esCons (eLst (aCons (M.bind (eC (.str ("told" : Str))) frz) (aCons (M.bind (M.bind (esCons (eFz (eVar 4)) esNil) (gCall 1 d__law_back)) frz) aNil))) esNil) gRepr))) (sRet (eC (.bl false))) sNx)))) (sSeq (sAsg (eFz (eSl (eBin gAdd (eBin gAdd (eBin gAdd (eVar 4) (eVar 4)) (eVar 4)) (eVar 4)) oNo (oAt (eC (.int 4))))) (put 10)) (sRet (eBin gEq (M.bind (esCons (M.bind (esCons (eFz (eVar 10)) (esCons (eFz (eVar 2)) esNil)) (gCall 2 d__law_turned)) esNil) gRepr) (M.bind (esCons (eLst (aCons (M.bind (eC (.str ("told" : Str))) frz) (aCons (M.bind (M.bind (esCons (eFz (eVar 10)) esNil) (gCall 1 d__law_back)) frz) aNil))) esNil) gRepr))))))))))))
noncomputable def d__law_turns_right : M E := fnE 15 b__law_turns_right

abbrev st__law_all_right : Stmt := top 45
noncomputable def b__law_all_right : M Fl := (sSeq (sAsg (eIf (tB (eBin gEq (eVar 2) (eC (.int 0)))) (M.bind (esCons (eFz (eVar 0)) esNil) (gCall 1 d_all_cells)) (M.bind (M.bind (esCons (eFz (eVar 0)) esNil) (pickM [0] 1)) (gCall 1 d_all_cells))) (put 4)) (sSeq (sAsg (eFz (M.bind (esCons (eFz (eVar 1)) esNil) (gCall 1 d__law_all))) (put 5)) (sSeq (sIf (tOr (tNot (tE (M.bind (eVar 4) (gIsi (kitT "list" cls))))) (tB (eBin gNe (M.bind (esCons (eVar 4) esNil) gRepr) (M.bind (esCons (eVar 5) esNil) gRepr)))) (sRet (eC (.bl false))) sNx) (sSeq (sIf (tB (eBin gEq (eVar 2) (eC (.int 0)))) (sDrop (eBm "list" oInsert (eVar 4) (aCons (M.bind (eC (.int 0)) frz) (aCons (M.bind (eC .non) frz) aNil)))) (sSeq (sDrop (eBm0 "list" oReverse (eVar 4))) (sDrop (eBm0 "list" oPop (eVar 4))))) (sSeq (sAsg (eFz (M.bind (esCons (eFz (eVar 0)) esNil) (gCall 1 d_all_cells))) (put 6)) (sSeq (sDrop (eBm "list" oAppend (eVar 3) (aCons (M.bind (eLst (aCons (M.bind (eVar 6) frz) (aCons (M.bind (M.bind (esCons (eVar 5) esNil) gRepr) frz) aNil))) frz) aNil))) (sRet (eAndV (M.bind (eVar 6) (gIsi (kitT "list" cls))) (eBin gEq (M.bind (esCons (eVar 6) esNil) gRepr) (M.bind (esCons (eVar 5) esNil) gRepr))))))))))
noncomputable def d__law_all_right : M E := fnE 7 b__law_all_right

abbrev st_Form___init__ : Stmt := inClass (top 20) 0
noncomputable def b_Form___init__ : M Fl := (sSeq (sIf (tNot (tE (M.bind (esCons (eFz (eVar 1)) (esCons (eC (.int 1)) (esCons (eFz (eC (.int 4))) esNil))) (gCall 3 d_are_unlike_names)))) (sRaise "InvalidColumns" "given" (M.bind (eVar 1) frz)) sNx) (sSeq (sFldD cls ("columns" : Str) (M.bind (M.bind (esCons (eVar 1) esNil) gTuple) frz) (eVar 0)) (sFldD cls ("places" : Str) (M.bind (eDc [2, 3] (M.bind (aCons (M.bind (M.bind (eVar 0) (gFld cls ("columns" : Str))) frz) aNil) wEnum) (unTup 2 (unCons (put 2) (unCons (put 3) unNil))) tYesD (M.bind (eVar 3) frz) (M.bind (eVar 2) frz)) frz) (eVar 0))))
noncomputable def d_Form___init__ : M E := fnE 4 b_Form___init__

abbrev st_Form_place : Stmt := inClass (top 20) 2
noncomputable def b_Form_place : M Fl := (sSeq (sIf (tNot (tE (M.bind (esCons (eFz (eVar 0)) (esCons (eFz (eVar 1)) esNil)) (gCall 2 d_is_column)))) (sRaise "InvalidColumn" "given" (M.bind (eVar 1) frz)) sNx) (sRet (eBin gIx (M.bind (eVar 0) (gFld cls ("places" : Str))) (eVar 1))))
noncomputable def d_Form_place : M E := fnE 2 b_Form_place

abbrev st_Form_is_row : Stmt := inClass (top 20) 3
noncomputable def b_Form_is_row : M Fl := (sRet (eAndV (M.bind (esCons (eFz (eVar 1)) (esCons (eFz (M.bind (esCons (M.bind (eVar 0) (gFld cls ("columns" : Str))) esNil) gLen)) esNil)) (gCall 2 d_is_tuple_of)) (M.bind (esCons (eLc [2] (itD (eVar 1)) (put 2) tYesD (M.bind (M.bind (esCons (eFz (eVar 2)) esNil) (gCall 1 d_is_whole)) frz)) esNil) gAll)))
noncomputable def d_Form_is_row : M E := fnE 3 b_Form_is_row

abbrev st_check_row : Stmt := top 26
noncomputable def b_check_row : M Fl := (sIf (tNot (tE (M.bind (eVar 0) (gMeth 2 "Form" "is_row" d_Form_is_row (esCons (eFz (eVar 1)) esNil))))) (sRaise "InvalidRow" "given" (M.bind (eVar 1) frz)) sNx)
noncomputable def d_check_row : M E := fnE 2 b_check_row

abbrev st_cell : Stmt := top 27
noncomputable def b_cell : M Fl := (sSeq (sDrop (M.bind (esCons (eFz (eVar 0)) (esCons (eFz (eVar 1)) esNil)) (gCall 2 d_check_row))) (sSeq (sDrop (M.bind (esCons (eFz (eVar 0)) (esCons (eFz (eVar 2)) esNil)) (gCall 2 d_check_row))) (sRet (M.bind (esCons (eFz (eVar 1)) (esCons (eFz (eVar 2)) esNil)) (gCall 2 d_cell_of)))))
noncomputable def d_cell : M E := fnE 3 b_cell

abbrev st__law_cell_of : Stmt := top 41
noncomputable def b__law_cell_of : M Fl := (sTry xcls (sSeq (sIf (tB (eBin gEq (eVar 3) (eC (.int 0)))) (sRet (eLst (aCons (M.bind (eC (.str ("told" : Str))) frz) (aCons (M.bind (M.bind (esCons (eFz (eVar 0)) (esCons (eFz (eVar 1)) (esCons (eFz (eVar 2)) esNil))) (gCall 3 d_cell)) frz) aNil)))) sNx) (sRet (eLst (aCons (M.bind (eC (.str ("told" : Str))) frz) (aCons (M.bind (M.bind (M.bind (esCons (eFz (eVar 2)) (esCons (eFz (eVar 0)) (esCons (eFz (eVar 1)) esNil))) (pickM [1, 2, 0] 3)) (gCall 3 d_cell)) frz) aNil))))) (("InvalidRow", (some 4), (hdL [.str ("row" : Str), .fld ("given" : Str), .bl true])) :: []))
noncomputable def d__law_cell_of : M E := fnE 5 b__law_cell_of

abbrev st__law_rows_right : Stmt := top 43
noncomputable def b__law_rows_right : M Fl := (sSeq (sAsg (eFz (M.bind (esCons (eLc [7] (M.bind (aCons (M.bind (eVar 2) frz) aNil) wR1) (put 7) tYesD (M.bind (M.bind (esCons (eVar 0) esNil) (gCall 1 d__law_whole)) frz)) esNil) gTuple)) (put 4)) (sSeq (sAsg (eFz (M.bind (esCons (eVar 0) (esCons (eFz (eVar 4)) esNil)) (gCall 2 d__law_near))) (put 5)) (sSeq (sAsg (eFz (M.bind (esCons (eLc [14, 15] (M.bind (aCons (M.bind (eVar 5) frz) (aCons (M.bind (eVar 4) frz) aNil)) wZip) (unTup 2 (unCons (put 14) (unCons (put 15) unNil))) tYesD (M.bind (M.bind (esCons (eFz (eVar 14)) (esCons (eFz (eVar 15)) esNil)) (gCall 2 d__law_sign)) frz)) esNil) gTuple)) (put 6)) (sSeq (sFor (M.bind (aCons (M.bind (eC (.int 2)) frz) aNil) wR1) (put 7) (sSeq (sAsg (eFz (M.bind (esCons (eFz (eVar 1)) (esCons (eFz (eVar 5)) (esCons (eFz (eVar 4)) (esCons (eFz (eBin gMod (M.bind (esCons (eBin gAdd (eVar 3) (eVar 7)) esNil) gInt) (eC (.int 2)))) esNil)))) (gCall 4 d__law_cell_of))) (put 8)) (sSeq (sAsg (eFz (M.bind (esCons (eFz (eVar 1)) (esCons (eFz (eVar 4)) (esCons (eFz (eVar 5)) (esCons (eFz (eVar 3)) esNil)))) (gCall 4 d__law_cell_of))) (put 9)) (sSeq (sIf (tOr (tB (eBin gNe (M.bind (esCons (eVar 8) esNil) gRepr) (M.bind (esCons (eLst (aCons (M.bind (eC (.str ("told" : Str))) frz) (aCons (M.bind (eVar 6) frz) aNil))) esNil) gRepr))) (tB (eBin gNe (M.bind (esCons (eVar 9) esNil) gRepr) (M.bind (esCons (eLst (aCons (M.bind (eC (.str ("told" : Str))) frz) (aCons (M.bind (M.bind (esCons (eFz (eVar 6)) esNil) (gCall 1 d__law_back)) frz) aNil))) esNil) gRepr)))) (sRet (eC (.bl false))) sNx) (sIf (tB (eBin gNe (M.bind (esCons (M.bind (esCons (eFz (eBin gIx (eVar 8) (eC (.int 1)))) (esCons (eFz (eVar 7)) esNil)) (gCall 2 d__law_turned)) esNil) gRepr) (M.bind (esCons (eVar 9) esNil) gRepr))) (sRet (eC (.bl false))) sNx))))) (sSeq (M.bind (esCons (eFz (M.bind (esCons (eVar 0) (esCons (eFz (eVar 5)) (esCons (eC (.int 0)) esNil))) (gCall 3 d__law_no_row))) (esCons (eFz (eC .non)) esNil)) (par2 10 11)) (sSeq (sFor (M.bind (aCons (M.bind (eC (.int 9)) frz) aNil) wR1) (put 7) (sIf (tOr (tB (eBin (gIs false) (eVar 11) (eC .non))) (tB (eBin gEq (M.bind (esCons (eVar 11) esNil) gRepr) (M.bind (esCons (eVar 10) esNil) gRepr)))) (sAsg (eFz (M.bind (esCons (eVar 0) (esCons (eFz (eVar 4)) (esCons (eFz (eVar 7)) esNil))) (gCall 3 d__law_no_row))) (put 11)) sNx)) (sSeq (sAsg (eFz (M.bind (esCons (eFz (eVar 1)) (esCons (eFz (eVar 5)) (esCons (eFz (eVar 10)) (esCons (eFz (eVar 3)) esNil)))) (gCall 4 d__law_cell_of))) (put 8)) (sSeq (sIf (tOr (tB (eBin gNe (eBin gIx (eVar 8) (eC (.int 0))) (eC (.str ("row" : Str))))) (tOr (tNot (tE (eBin gIx (eVar 8) (eC (.int 2))))) (tNot (tE (M.bind (esCons (eFz (eBin gIx (eVar 8) (eC (.int 1)))) (esCons (eVar 10) esNil)) (gCall 2 d__law_very)))))) (sRet (eC (.bl false))) sNx) (sSeq (M.bind (esCons (eFz (M.bind (esCons (eVar 0) (esCons (eFz (eVar 5)) (esCons (eC (.int 0)) esNil))) (gCall 3 d__law_no_row))) (esCons (eFz (eBin gIx (eLst (aCons (M.bind (eVar 5) frz) (aCons (M.bind (eVar 11) frz) aNil))) (M.bind (esCons (eVar 0) (esCons (eC (.int 2)) esNil)) (gCall 2 d__law_take)))) esNil)) (par2 12 13)) (sSeq (sIf (tAnd (tB (eBin gEqW (eVar 13) (eVar 11))) (tB (eBin gEq (M.bind (esCons (eVar 12) esNil) gRepr) (M.bind (esCons (eVar 11) esNil) gRepr)))) (sAsg (eFz (eVar 4)) (put 13)) sNx) (sSeq (sAsg (eFz (M.bind (esCons (eFz (eVar 1)) (esCons (eFz (eVar 12)) (esCons (eFz (eVar 13)) (esCons (eFz (eBin gSub (eC (.int 1)) (eVar 3))) esNil)))) (gCall 4 d__law_cell_of))) (put 8)) (sRet (eAndV (eBin gEq (eBin gIx (eVar 8) (eC (.int 0))) (eC (.str ("row" : Str)))) (M.bind (esCons (eFz (eBin gIx (eVar 8) (eC (.int 1)))) (esCons (eVar 12) esNil)) (gCall 2 d__law_very)))))))))))))))
noncomputable def d__law_rows_right : M E := fnE 16 b__law_rows_right

abbrev st_law : Stmt := top 46
noncomputable def b_law : M Fl := (sSeq (sAsg (eRf (eLst aNil)) (put 1)) (sSeq (sFor (M.bind (aCons (M.bind (M.bind (esCons (eC (.int 3)) (esCons (M.bind (esCons (eC (.int 6)) (esCons (M.bind (esCons (eVar 0) esNil) gLen) esNil)) gMin2) esNil)) gMax2) frz) aNil) wR1) (put 2) (sSeq (sAsg (eRf (M.bind (esCons (eFz (M.bind (esCons (eFz (eVar 0)) (esCons (eFz (eVar 2)) esNil)) (gCall 2 d__law_cell))) esNil) (gCall 1 d__law_box))) (put 3)) (sSeq (M.bind (esCons (eFz (M.bind (esCons (eVar 3) (esCons (eC (.int 2)) esNil)) (gCall 2 d__law_take))) (esCons (eFz (eBin gAdd (eC (.int 1)) (M.bind (esCons (eVar 3) (esCons (eC (.int 4)) esNil)) (gCall 2 d__law_take)))) (esCons (eFz (eBin gAdd (eC (.int 1)) (M.bind (esCons (eVar 3) (esCons (eC (.int 4)) esNil)) (gCall 2 d__law_take)))) esNil))) (par3 6 7 8)) (sSeq (sAsg (eFz (eLst (aCons (M.bind (M.bind (esCons (eFz (eSl (eLst (aCons (M.bind (eC (.str ("b" : Str))) frz) (aCons (M.bind (eC (.str ("a" : Str))) frz) (aCons (M.bind (eC (.str ("dd" : Str))) frz) (aCons (M.bind (eC (.str ("c" : Str))) frz) aNil))))) oNo (oAt (eVar 7)))) esNil) (gMake 2 "Form" d_Form___init__)) frz) (aCons (M.bind (M.bind (esCons (eFz (eSl (eTup (aCons (M.bind (eC (.str ("d" : Str))) frz) (aCons (M.bind (eC (.str ("cc" : Str))) frz) (aCons (M.bind (eC (.str ("b" : Str))) frz) (aCons (M.bind (eC (.str ("a" : Str))) frz) aNil))))) oNo (oAt (eVar 8)))) esNil) (gMake 2 "Form" d_Form___init__)) frz) aNil)))) (put 4)) (sFor (M.bind (aCons (M.bind (eC (.int 4)) frz) aNil) wR1) (put 5) (sSeq (M.bind (esCons (eFz (eBin gIx (eVar 4) (eBin gMod (eVar 5) (eC (.int 2))))) (esCons (eFz (eBin gIx (eLst (aCons (M.bind (eVar 7) frz) (aCons (M.bind (eVar 8) frz) aNil))) (eBin gMod (eVar 5) (eC (.int 2))))) esNil)) (par2 9 10)) (sSeq (sIf (tNot (tE (M.bind (esCons (eFz (eVar 9)) (esCons (eFz (eVar 10)) (esCons (eFz (eBin gMod (M.bind (esCons (eBin gAdd (eVar 6) (eVar 5)) esNil) gInt) (eC (.int 2)))) (esCons (eVar 1) esNil)))) (gCall 4 d__law_all_right)))) (sRet (eC (.bl false))) sNx) (sSeq (sIf (tNot (tE (M.bind (esCons (eVar 3) (esCons (eFz (eVar 9)) (esCons (eFz (eVar 10)) (esCons (eFz (eBin gMod (M.bind (esCons (eBin gAdd (eVar 6) (eBin gFdiv (eVar 5) (eC (.int 2)))) esNil) gInt) (eC (.int 2)))) esNil)))) (gCall 4 d__law_rows_right)))) (sRet (eC (.bl false))) sNx) (sIf (tAnd (tB (eBin cLt (eVar 5) (eC (.int 2)))) (tNot (tE (M.bind (esCons (eVar 3) (esCons (eFz (eVar 10)) (esCons (eFz (eVar 6)) esNil))) (gCall 3 d__law_turns_right))))) (sRet (eC (.bl false))) sNx))))))))) (sRet (eBin gEqZ (eLcC [11, 12] (itC (eVar 1)) (unTup 2 (unCons (put 11) (unCons (put 12) unNil))) (tB (eBin gNe (M.bind (esCons (eVar 11) esNil) gRepr) (eVar 12))) (M.bind (eC (.int 1)) frz)) (eLst aNil)))))
noncomputable def d_law : M E := fnE 13 b_law

end Lw
set_option Elab.async false
set_option linter.all false
set_option maxRecDepth 100000
set_option maxHeartbeats 4000000
namespace Lw
open PySem L2 DL PySem.Spec PyProof.Rows
section
variable {P : Program} {w : World} {K : PySem.W.Frag} {mg : Str → Option Value} {base : Heap} {G : Str → Addr} {f : Addr} {fd : FuncData}
theorem sc_Form___init__ : FnScope ["self", "columns", "at", "name"] ["self", "columns"] (defScope st_Form___init__) := ⟨rfl, rfl, rfl, by decide +kernel, rfl, by decide +kernel, by decide +kernel⟩
theorem ok_Form___init__ (T : Txt w K mg G) (F : L2.Fun K "__init__" "Form.__init__" st_Form___init__ f fd) (hm : Mk K (G "Form") f) (hc : mg "Form" = some (.ref (G "Form"))) (hb : Binds K fd ["self", "columns"] []) (C_are_unlike_names : Cal P w K mg base G 3 "are_unlike_names" ["value", "least", "most"] d_are_unlike_names) (X_InvalidColumns : CalX P w K mg base G "InvalidColumns" "given") : CalI P w K mg base G 4 "Form" ["self", "columns"] d_Form___init__ :=
  have sc := sc_Form___init__
  CalI.of (N := ["self", "columns", "at", "name"]) (b := b_Form___init__) F hm hc hb sc fun cdv A outer s H vs Ex hg hr =>
   (ds_cons (ds_if (dt_not (dt_truth (de_cal C_are_unlike_names hg hr (by decide) (takes_of rfl rfl rfl rfl) (ls_cons (de_fz (dv 1)) (ls_cons de_int (ls_cons (de_fz (de_tC (pe_gl rfl T.g_MOST_COLUMNS) fun _ _ => .int _)) ls_nil)))))) (ds_one (ds_raise X_InvalidColumns rfl (takes_of rfl rfl rfl rfl) hr (by decide) (dd (dv 1)))) ds_nil)
    (ds_cons (ds_fld T.a_columns (dv 0) (dd (de_callTy cp_tuple call_tuple_of rfl T.b_tuple (by decide +kernel) (ls_cons (dv 1) ls_nil))))
    (ds_one (ds_fld T.a_places (dv 0) (dd (de_dc (own := [(("at" : Str), 2), (("name" : Str), 3)]) rfl sc.nd (di_enum rfl T.b_enumerate (la_cons (dd (de_fld T.a_columns (dv 0))) la_nil)) (blkOk_by (by kernel_rfl)) (fun _ _ _ _ _ => (lgw_un rfl (lgsw_cons (lgw_put (pg_name (i := 2) sc.nd rfl (by first | exact Or.inl rfl | exact Or.inr rfl)) (by decide)) (lgsw_cons (lgw_put (pg_name (i := 3) sc.nd rfl (by first | exact Or.inl rfl | exact Or.inr rfl)) (by decide)) lgsw_nil)))) (fun _ _ _ _ _ => dts_nil) (fun _ _ _ _ _ => (dd (dv 3))) (fun _ _ _ _ _ => (dd (dv 2)))))))))
end
end Lw
set_option Elab.async false
set_option linter.all false
set_option maxRecDepth 100000
set_option maxHeartbeats 4000000
namespace Lw
open PySem L2 DL PySem.Spec PyProof.Rows
section
variable {P : Program} {w : World} {K : PySem.W.Frag} {mg : Str → Option Value} {base : Heap} {G : Str → Addr} {f : Addr} {fd : FuncData}
theorem sc_Form_is_row : FnScope ["self", "value", "item"] ["self", "value"] (defScope st_Form_is_row) := ⟨rfl, rfl, rfl, by decide +kernel, rfl, by decide +kernel, by decide +kernel⟩
theorem ok_Form_is_row (T : Txt w K mg G) (F : L2.Fun K "is_row" "Form.is_row" st_Form_is_row f fd) (hm : Meth K (G "Form") "is_row" f) (hc : Cls K (G "Form")) (hb : Binds K fd ["self", "value"] []) (C_is_tuple_of : Cal P w K mg base G 1 "is_tuple_of" ["value", "many"] d_is_tuple_of) (C_is_whole : Cal P w K mg base G 1 "is_whole" ["value"] d_is_whole) : CalM P w K mg base G 2 "Form" "is_row" ["self", "value"] d_Form_is_row :=
  have sc := sc_Form_is_row
  CalM.of (N := ["self", "value", "item"]) (b := b_Form_is_row) F hm hc hb sc fun cdv A outer s H vs Ex hg hr =>
   (ds_one (ds_ret (de_and (de_cal C_is_tuple_of hg hr (by decide) (takes_of rfl rfl rfl rfl) (ls_cons (de_fz (dv 1)) (ls_cons (de_fz (de_callB cp_len cd_len rfl T.b_len (by decide +kernel) (ls_cons (de_fld T.a_columns (dv 0)) ls_nil))) ls_nil))) (de_one (de_callB cp_all (cr_all rfl) rfl T.b_all (by decide +kernel) (ls_cons (de_lc (own := [(("item" : Str), 2)]) rfl sc.nd (di_seq (dv 1)) (blkOk_by (by kernel_rfl)) (fun _ _ _ _ _ => (lgw_put (pg_name (i := 2) sc.nd rfl (by first | exact Or.inl rfl | exact Or.inr rfl)) (by decide))) (fun _ _ _ _ _ => dts_nil) (fun _ _ _ _ _ => (dd (de_cal C_is_whole hg hr (by decide) tk0 (ls_cons (de_fz (dv 2)) ls_nil))))) ls_nil))))))
end
end Lw
set_option Elab.async false
set_option linter.all false
set_option maxRecDepth 100000
set_option maxHeartbeats 4000000
namespace Lw
open PySem L2 DL PySem.Spec PyProof.Rows
section
variable {P : Program} {w : World} {K : PySem.W.Frag} {mg : Str → Option Value} {base : Heap} {G : Str → Addr} {f : Addr} {fd : FuncData}
theorem sc__law_all : FnScope ["many", "found", "k", "longer", "one", "sign"] ["many"] (defScope st__law_all) := ⟨rfl, rfl, rfl, by decide +kernel, rfl, by decide +kernel, by decide +kernel⟩
theorem ok__law_all (T : Txt w K mg G) (F : L2.Fun K "_law_all" "_law_all" st__law_all f fd) (hm : mg "_law_all" = some (.ref f)) (hb : Binds K fd ["many"] [])  : Cal P w K mg base G 1 "_law_all" ["many"] d__law_all :=
  have sc := sc__law_all
  Cal.of (N := ["many", "found", "k", "longer", "one", "sign"]) (b := b__law_all) F hm hb sc fun cdv A outer s H vs Ex hg hr =>
   (ds_cons (ds_set (i := 1) sc.nd rfl (by first | exact Or.inl rfl | exact Or.inr rfl) (de_fz (de_lst (la_cons (dd (de_tup la_nil)) la_nil))))
    (ds_cons (ds_for (passes_of rfl) rfl (di_range1 rfl T.b_range (la_cons (dd (dv 0)) la_nil)) (lg_put (pg_name (i := 2) sc.nd rfl (by first | exact Or.inl rfl | exact Or.inr rfl))) (ds_cons (ds_set (i := 3) sc.nd rfl (by first | exact Or.inl rfl | exact Or.inr rfl) (de_lst la_nil))
    (ds_cons (ds_for (passes_of rfl) rfl (di_seq (dv 1)) (lg_put (pg_name (i := 4) sc.nd rfl (by first | exact Or.inl rfl | exact Or.inr rfl))) (ds_one (ds_expr (de_bm PySem.F.plainAttrs_list PySem.F.slot_list_extend PySem.F.type_list_extend mt_extend md_extend (dv 3) (la_cons (dd (de_lc (own := [(("sign" : Str), 5)]) rfl sc.nd (di_seq de_str) (blkOk_by (by kernel_rfl)) (fun _ _ _ _ _ => (lgw_put (pg_name (i := 5) sc.nd rfl (by first | exact Or.inl rfl | exact Or.inr rfl)) (by decide))) (fun _ _ _ _ _ => dts_nil) (fun _ _ _ _ _ => (dd (de_add rfl (dv 4) (de_tup (la_cons (dd (dv 5)) la_nil))))))) la_nil)))))
    (ds_one (ds_set (i := 1) sc.nd rfl (by first | exact Or.inl rfl | exact Or.inr rfl) (de_fz (dv 3)))))))
    (ds_one (ds_ret (dv 1)))))
end
end Lw
set_option Elab.async false
set_option linter.all false
set_option maxRecDepth 100000
set_option maxHeartbeats 4000000
namespace Lw
open PySem L2 DL PySem.Spec PyProof.Rows
section
variable {P : Program} {w : World} {K : PySem.W.Frag} {mg : Str → Option Value} {base : Heap} {G : Str → Addr} {f : Addr} {fd : FuncData}
theorem sc__law_all_right : FnScope ["form", "many", "turn", "held", "told", "due", "again"] ["form", "many", "turn", "held"] (defScope st__law_all_right) := ⟨rfl, rfl, rfl, by decide +kernel, rfl, by decide +kernel, by decide +kernel⟩
theorem ok__law_all_right (T : Txt w K mg G) (F : L2.Fun K "_law_all_right" "_law_all_right" st__law_all_right f fd) (hm : mg "_law_all_right" = some (.ref f)) (hb : Binds K fd ["form", "many", "turn", "held"] []) (C__law_all : Cal P w K mg base G 1 "_law_all" ["many"] d__law_all) (C_all_cells : Cal P w K mg base G 2 "all_cells" ["form"] d_all_cells) (B_all_cells_0 : KbAt K mg "all_cells" ["form"] ["form"] [0]) : Cal P w K mg base G 3 "_law_all_right" ["form", "many", "turn", "held"] d__law_all_right :=
  have sc := sc__law_all_right
  Cal.of (N := ["form", "many", "turn", "held", "told", "due", "again"]) (b := b__law_all_right) F hm hb sc fun cdv A outer s H vs Ex hg hr =>
   (ds_cons (ds_set (i := 4) sc.nd rfl (by first | exact Or.inl rfl | exact Or.inr rfl) (de_if (dt_eq hr.units (dv 2) de_int) (de_cal C_all_cells hg hr (by decide) (takes_of rfl rfl rfl rfl) (ls_cons (de_fz (dv 0)) ls_nil)) (de_calK (ks := ["form"]) C_all_cells B_all_cells_0 hg hr (by decide) (takes_of rfl rfl rfl rfl) (lk_cons (de_fz (dv 0)) lk_nil))))
    (ds_cons (ds_set (i := 5) sc.nd rfl (by first | exact Or.inl rfl | exact Or.inr rfl) (de_fz (de_cal C__law_all hg hr (by decide) (takes_of rfl rfl rfl rfl) (ls_cons (de_fz (dv 1)) ls_nil))))
    (ds_cons (ds_if (L2.PW.pt (dw_or (dt_not (dt_truth (de_isi T.k_list (.ty _) (pe_bltn rfl T.b_list (by decide +kernel) rfl) (dv 4) rfl T.b_isinstance))) (dw_or1 (dt_ne hr.units (de_callB cp_repr (cd_repr hg hr.units) rfl T.b_repr (by decide +kernel) (ls_cons (dv 4) ls_nil)) (de_callB cp_repr (cd_repr hg hr.units) rfl T.b_repr (by decide +kernel) (ls_cons (dv 5) ls_nil)))))) (ds_one (ds_ret de_bl)) ds_nil)
    (ds_cons (ds_if (dt_eq hr.units (dv 2) de_int) (ds_one (ds_expr (de_bm PySem.F.plainAttrs_list PySem.F.slot_list_insert PySem.F.type_list_insert mt_insert md_insert (dv 4) (la_cons (dd de_int) (la_cons (dd de_non) la_nil))))) (ds_cons (ds_expr (de_bm0 PySem.F.plainAttrs_list PySem.F.slot_list_reverse PySem.F.type_list_reverse mt_reverse md_reverse (dv 4)))
    (ds_one (ds_expr (de_bm0 PySem.F.plainAttrs_list PySem.F.slot_list_pop PySem.F.type_list_pop mt_pop md_pop (dv 4))))))
    (ds_cons (ds_set (i := 6) sc.nd rfl (by first | exact Or.inl rfl | exact Or.inr rfl) (de_fz (de_cal C_all_cells hg hr (by decide) (takes_of rfl rfl rfl rfl) (ls_cons (de_fz (dv 0)) ls_nil))))
    (ds_cons (ds_expr (de_bm PySem.F.plainAttrs_list PySem.F.slot_list_append PySem.F.type_list_append mt_append md_append (dv 3) (la_cons (dd (de_lst (la_cons (dd (dv 6)) (la_cons (dd (de_callB cp_repr (cd_repr hg hr.units) rfl T.b_repr (by decide +kernel) (ls_cons (dv 5) ls_nil))) la_nil)))) la_nil)))
    (ds_one (ds_ret (de_and (de_isi T.k_list (.ty _) (pe_bltn rfl T.b_list (by decide +kernel) rfl) (dv 6) rfl T.b_isinstance) (de_one (de_eq hr.units (de_callB cp_repr (cd_repr hg hr.units) rfl T.b_repr (by decide +kernel) (ls_cons (dv 6) ls_nil)) (de_callB cp_repr (cd_repr hg hr.units) rfl T.b_repr (by decide +kernel) (ls_cons (dv 5) ls_nil)))))))))))))
end
end Lw
set_option Elab.async false
set_option linter.all false
set_option maxRecDepth 100000
set_option maxHeartbeats 4000000
namespace Lw
open PySem L2 DL PySem.Spec PyProof.Rows
section
variable {P : Program} {w : World} {K : PySem.W.Frag} {mg : Str → Option Value} {base : Heap} {G : Str → Addr} {f : Addr} {fd : FuncData}
theorem sc__law_back : FnScope ["one", "sign"] ["one"] (defScope st__law_back) := ⟨rfl, rfl, rfl, by decide +kernel, rfl, by decide +kernel, by decide +kernel⟩
theorem ok__law_back (T : Txt w K mg G) (F : L2.Fun K "_law_back" "_law_back" st__law_back f fd) (hm : mg "_law_back" = some (.ref f)) (hb : Binds K fd ["one"] [])  : Cal P w K mg base G 1 "_law_back" ["one"] d__law_back :=
  have sc := sc__law_back
  Cal.of (N := ["one", "sign"]) (b := b__law_back) F hm hb sc fun cdv A outer s H vs Ex hg hr =>
   (ds_one (ds_ret (de_callTy cp_tuple call_tuple_of rfl T.b_tuple (by decide +kernel) (ls_cons (de_lc (own := [(("sign" : Str), 1)]) rfl sc.nd (di_seq (dv 0)) (blkOk_by (by kernel_rfl)) (fun _ _ _ _ _ => (lgw_put (pg_name (i := 1) sc.nd rfl (by first | exact Or.inl rfl | exact Or.inr rfl)) (by decide))) (fun _ _ _ _ _ => dts_nil) (fun _ _ _ _ _ => (dd (de_if (dt_eq hr.units (dv 1) de_str) de_str (de_if (dt_eq hr.units (dv 1) de_str) de_str de_str))))) ls_nil))))
end
end Lw
set_option Elab.async false
set_option linter.all false
set_option maxRecDepth 100000
set_option maxHeartbeats 4000000
namespace Lw
open PySem L2 DL PySem.Spec PyProof.Rows
section
variable {P : Program} {w : World} {K : PySem.W.Frag} {mg : Str → Option Value} {base : Heap} {G : Str → Addr} {f : Addr} {fd : FuncData}
theorem sc__law_box : FnScope ["great"] ["great"] (defScope st__law_box) := ⟨rfl, rfl, rfl, by decide +kernel, rfl, by decide +kernel, by decide +kernel⟩
theorem ok__law_box (T : Txt w K mg G) (F : L2.Fun K "_law_box" "_law_box" st__law_box f fd) (hm : mg "_law_box" = some (.ref f)) (hb : Binds K fd ["great"] [])  : Cal P w K mg base G 1 "_law_box" ["great"] d__law_box :=
  have sc := sc__law_box
  Cal.of (N := ["great"]) (b := b__law_box) F hm hb sc fun cdv A outer s H vs Ex hg hr =>
   (ds_one (ds_ret (de_lst (la_cons (dd (de_callB cp_abs call_abs rfl T.b_abs (by decide +kernel) (ls_cons (dv 0) ls_nil))) (la_cons (dd (de_ge (de_callB cp_abs call_abs rfl T.b_abs (by decide +kernel) (ls_cons (dv 0) ls_nil)) (de_pow de_int de_int))) (la_cons (dd (de_mod (de_callTy cp_int call_int1 rfl T.b_int (by decide +kernel) (ls_cons (de_callB cp_abs call_abs rfl T.b_abs (by decide +kernel) (ls_cons (dv 0) ls_nil)) ls_nil)) de_int)) (la_cons (dd de_int) la_nil)))))))
end
end Lw
set_option Elab.async false
set_option linter.all false
set_option maxRecDepth 100000
set_option maxHeartbeats 4000000
namespace Lw
open PySem L2 DL PySem.Spec PyProof.Rows
section
variable {P : Program} {w : World} {K : PySem.W.Frag} {mg : Str → Option Value} {base : Heap} {G : Str → Addr} {f : Addr} {fd : FuncData}
theorem sc__law_cell : FnScope ["script", "k"] ["script", "k"] (defScope st__law_cell) := ⟨rfl, rfl, rfl, by decide +kernel, rfl, by decide +kernel, by decide +kernel⟩
theorem ok__law_cell (T : Txt w K mg G) (F : L2.Fun K "_law_cell" "_law_cell" st__law_cell f fd) (hm : mg "_law_cell" = some (.ref f)) (hb : Binds K fd ["script", "k"] [])  : Cal P w K mg base G 1 "_law_cell" ["script", "k"] d__law_cell :=
  have sc := sc__law_cell
  Cal.of (N := ["script", "k"]) (b := b__law_cell) F hm hb sc fun cdv A outer s H vs Ex hg hr =>
   (ds_one (ds_ret (de_if (dt_lt (dv 1) (de_callB cp_len cd_len rfl T.b_len (by decide +kernel) (ls_cons (dv 0) ls_nil))) (de_ix (dv 0) (dv 1) (fun _ _ => rfl)) (de_add rfl (de_mul de_int (dv 1)) (de_mod (de_callB cp_sum (cr_sum rfl) rfl T.b_sum (by decide +kernel) (ls_cons (de_sl (dv 0) do_none (do_some de_int)) ls_nil)) de_int)))))
end
end Lw
set_option Elab.async false
set_option linter.all false
set_option maxRecDepth 100000
set_option maxHeartbeats 4000000
namespace Lw
open PySem L2 DL PySem.Spec PyProof.Rows
section
variable {P : Program} {w : World} {K : PySem.W.Frag} {mg : Str → Option Value} {base : Heap} {G : Str → Addr} {f : Addr} {fd : FuncData}
theorem sc__law_cell_of : FnScope ["form", "later", "earlier", "turn", "e"] ["form", "later", "earlier", "turn"] (defScope st__law_cell_of) := ⟨rfl, rfl, rfl, by decide +kernel, rfl, by decide +kernel, by decide +kernel⟩
theorem ok__law_cell_of (T : Txt w K mg G) (F : L2.Fun K "_law_cell_of" "_law_cell_of" st__law_cell_of f fd) (hm : mg "_law_cell_of" = some (.ref f)) (hb : Binds K fd ["form", "later", "earlier", "turn"] []) (C_cell : Cal P w K mg base G 4 "cell" ["form", "later", "earlier"] d_cell) (B_cell_120 : KbAt K mg "cell" ["form", "later", "earlier"] ["earlier", "form", "later"] [1, 2, 0]) : Cal P w K mg base G 5 "_law_cell_of" ["form", "later", "earlier", "turn"] d__law_cell_of :=
  have sc := sc__law_cell_of
  Cal.of (N := ["form", "later", "earlier", "turn", "e"]) (b := b__law_cell_of) F hm hb sc fun cdv A outer s H vs Ex hg hr =>
   (ds_one (ds_try (xs := xcls) T.xs rfl rfl sc.nd (takes_of rfl rfl rfl rfl) (fun W pn xe tkT poT => (ds_cons (ds_if (dt_eq hr.units (dv 3) de_int) (ds_one (ds_ret (de_lst (la_cons (dd de_str) (la_cons (dd (de_cal C_cell hg hr (by decide) tkT (ls_cons (de_fz (dv 0)) (ls_cons (de_fz (dv 1)) (ls_cons (de_fz (dv 2)) ls_nil))))) la_nil))))) ds_nil)
    (ds_one (ds_ret (de_lst (la_cons (dd de_str) (la_cons (dd (de_calK (ks := ["earlier", "form", "later"]) C_cell B_cell_120 hg hr (by decide) tkT (lk_cons (de_fz (dv 2)) (lk_cons (de_fz (dv 0)) (lk_cons (de_fz (dv 1)) lk_nil))))) la_nil))))))) (.named (by decide +kernel) rfl (by decide) rfl rfl (fun a oe cls d pn hz hf => (hs_list (ph_str (ph_fld T.xs T.n_given hz hf (pv 4) (ph_isE T.xi T.b_isinstance T.xs hz hf (pv 4) ph_nil))))) .nil)))
end
end Lw
set_option Elab.async false
set_option linter.all false
set_option maxRecDepth 100000
set_option maxHeartbeats 4000000
namespace Lw
open PySem L2 DL PySem.Spec PyProof.Rows
section
variable {P : Program} {w : World} {K : PySem.W.Frag} {mg : Str → Option Value} {base : Heap} {G : Str → Addr} {f : Addr} {fd : FuncData}
theorem sc__law_near : FnScope ["box", "row", "steps", "one", "step"] ["box", "row"] (defScope st__law_near) := ⟨rfl, rfl, rfl, by decide +kernel, rfl, by decide +kernel, by decide +kernel⟩
theorem ok__law_near (T : Txt w K mg G) (F : L2.Fun K "_law_near" "_law_near" st__law_near f fd) (hm : mg "_law_near" = some (.ref f)) (hb : Binds K fd ["box", "row"] []) (C__law_take : Cal P w K mg base G 1 "_law_take" ["box", "many"] d__law_take) : Cal P w K mg base G 2 "_law_near" ["box", "row"] d__law_near :=
  have sc := sc__law_near
  Cal.of (N := ["box", "row", "steps", "one", "step"]) (b := b__law_near) F hm hb sc fun cdv A outer s H vs Ex hg hr =>
   (ds_cons (ds_setLc (own := [(("one" : Str), 3)]) rfl sc.nd (i := 2) rfl rfl (sw_true rfl rfl rfl (by decide +kernel)) (di_seq (dv 1)) (blkOk_by (by kernel_rfl)) (fun _ _ _ _ _ => (lgw_put (pg_name (i := 3) sc.nd rfl (by first | exact Or.inl rfl | exact Or.inr rfl)) (by decide))) (fun _ _ _ _ _ => dts_nil) (fun _ _ _ _ _ => (dd (de_cal C__law_take hg hr (by decide) tk0 (ls_cons (dv 0) (ls_cons de_int ls_nil))))))
    (ds_one (ds_ret (de_callTy cp_tuple call_tuple_of rfl T.b_tuple (by decide +kernel) (ls_cons (de_lc (own := [(("one" : Str), 3), (("step" : Str), 4)]) rfl sc.nd (di_zip rfl T.b_zip (la_cons (dd (dv 1)) (la_cons (dd (dv 2)) la_nil))) (blkOk_by (by kernel_rfl)) (fun _ _ _ _ _ => (lgw_un rfl (lgsw_cons (lgw_put (pg_name (i := 3) sc.nd rfl (by first | exact Or.inl rfl | exact Or.inr rfl)) (by decide)) (lgsw_cons (lgw_put (pg_name (i := 4) sc.nd rfl (by first | exact Or.inl rfl | exact Or.inr rfl)) (by decide)) lgsw_nil)))) (fun _ _ _ _ _ => dts_nil) (fun _ _ _ _ _ => (dd (de_add rfl (dv 3) (de_ix (de_lst (la_cons (dd de_int) (la_cons (dd de_int) (la_cons (dd (de_neg de_int)) (la_cons (dd de_int) (la_cons (dd de_int) (la_cons (dd (de_neg de_int)) la_nil))))))) (dv 4) (fun _ _ => rfl)))))) ls_nil)))))
end
end Lw
set_option Elab.async false
set_option linter.all false
set_option maxRecDepth 100000
set_option maxHeartbeats 4000000
namespace Lw
open PySem L2 DL PySem.Spec PyProof.Rows
section
variable {P : Program} {w : World} {K : PySem.W.Frag} {mg : Str → Option Value} {base : Heap} {G : Str → Addr} {f : Addr} {fd : FuncData}
theorem sc__law_no_row : FnScope ["box", "row", "shift", "odd", "menu", "place", "way", "k", "one"] ["box", "row", "shift"] (defScope st__law_no_row) := ⟨rfl, rfl, rfl, by decide +kernel, rfl, by decide +kernel, by decide +kernel⟩
theorem ok__law_no_row (T : Txt w K mg G) (F : L2.Fun K "_law_no_row" "_law_no_row" st__law_no_row f fd) (hm : mg "_law_no_row" = some (.ref f)) (hb : Binds K fd ["box", "row", "shift"] []) (C__law_take : Cal P w K mg base G 1 "_law_take" ["box", "many"] d__law_take) : Cal P w K mg base G 2 "_law_no_row" ["box", "row", "shift"] d__law_no_row :=
  have sc := sc__law_no_row
  Cal.of (N := ["box", "row", "shift", "odd", "menu", "place", "way", "k", "one"]) (b := b__law_no_row) F hm hb sc fun cdv A outer s H vs Ex hg hr =>
   (ds_cons (ds_parN rfl (pgs_cons (pg_name (i := 5) sc.nd rfl (by first | exact Or.inl rfl | exact Or.inr rfl)) (pgs_cons (pg_name (i := 6) sc.nd rfl (by first | exact Or.inl rfl | exact Or.inr rfl)) pgs_nil)) (ls_cons (de_fz (de_cal C__law_take hg hr (by decide) (takes_of rfl rfl rfl rfl) (ls_cons (dv 0) (ls_cons (de_fz (de_callB cp_len cd_len rfl T.b_len (by decide +kernel) (ls_cons (dv 1) ls_nil))) ls_nil)))) (ls_cons (de_fz (de_mod (de_callTy cp_int call_int1 rfl T.b_int (by decide +kernel) (ls_cons (de_add rfl (de_cal C__law_take hg hr (by decide) (takes_of rfl rfl rfl rfl) (ls_cons (dv 0) (ls_cons de_int ls_nil))) (dv 2)) ls_nil)) de_int)) ls_nil)))
    (ds_cons (ds_set (i := 3) sc.nd rfl (by first | exact Or.inl rfl | exact Or.inr rfl) (de_fz (de_ix (de_lst (la_cons (dd de_bl) (la_cons (dd de_non) (la_cons (dd de_str) (la_cons (dd (de_tup (la_cons (dd de_int) la_nil))) (la_cons (dd (de_lst (la_cons (dd de_int) la_nil))) (la_cons (dd de_bl) la_nil))))))) (de_cal C__law_take hg hr (by decide) (takes_of rfl rfl rfl rfl) (ls_cons (dv 0) (ls_cons de_int ls_nil))) (fun _ _ => rfl))))
    (ds_cons (ds_set (i := 4) sc.nd rfl (by first | exact Or.inl rfl | exact Or.inr rfl) (de_fz (de_lst (la_cons (rr (de_callTy cp_list call_list_of rfl T.b_list (by decide +kernel) (ls_cons (dv 1) ls_nil))) (la_cons (dd (de_add rfl (dv 1) (de_tup (la_cons (dd de_int) la_nil)))) (la_cons (dd (de_sl (dv 1) do_none (do_some (de_neg de_int)))) (la_cons (dd (de_callTy cp_tuple call_tuple_of rfl T.b_tuple (by decide +kernel) (ls_cons (de_lc (own := [(("k" : Str), 7), (("one" : Str), 8)]) rfl sc.nd (di_enum rfl T.b_enumerate (la_cons (dd (dv 1)) la_nil)) (blkOk_by (by kernel_rfl)) (fun _ _ _ _ _ => (lgw_un rfl (lgsw_cons (lgw_put (pg_name (i := 7) sc.nd rfl (by first | exact Or.inl rfl | exact Or.inr rfl)) (by decide)) (lgsw_cons (lgw_put (pg_name (i := 8) sc.nd rfl (by first | exact Or.inl rfl | exact Or.inr rfl)) (by decide)) lgsw_nil)))) (fun _ _ _ _ _ => dts_nil) (fun _ _ _ _ _ => (dd (de_if (dt_eq hr.units (dv 7) (dv 5)) (dv 3) (dv 8))))) ls_nil))) la_nil)))))))
    (ds_one (ds_ret (de_ix (de_add rfl (dv 4) (de_lst (la_cons (dd de_non) (la_cons (dd (de_ix (dv 1) de_int (fun _ _ => rfl))) (la_cons (dd (de_callTy cp_strI call_str_int rfl T.b_str (by decide +kernel) (ls_cons (de_ix (dv 1) de_int (fun _ _ => rfl)) ls_nil))) (la_cons (rr (de_dispS [("a" : Str)] [(M.bind (eBin gIx (eVar 1) (eC (.int 0))) frz)] (pps_cons pe_str (dd (de_ix (dv 1) de_int (fun _ _ => rfl))) pps_nil) rfl (fun vs h => match vs, h with | [_], _ => rfl))) (la_cons (dd (de_tup (la_cons (dd (dv 1)) la_nil))) la_nil))))))) (dv 6) (fun _ _ => rfl)))))))
end
end Lw
set_option Elab.async false
set_option linter.all false
set_option maxRecDepth 100000
set_option maxHeartbeats 4000000
namespace Lw
open PySem L2 DL PySem.Spec PyProof.Rows
section
variable {P : Program} {w : World} {K : PySem.W.Frag} {mg : Str → Option Value} {base : Heap} {G : Str → Addr} {f : Addr} {fd : FuncData}
theorem sc__law_rows_right : FnScope ["box", "form", "many", "turn", "earlier", "later", "due", "k", "told", "back", "wrong", "other", "first", "last", "a", "b"] ["box", "form", "many", "turn"] (defScope st__law_rows_right) := ⟨rfl, rfl, rfl, by decide +kernel, rfl, by decide +kernel, by decide +kernel⟩
theorem ok__law_rows_right (T : Txt w K mg G) (F : L2.Fun K "_law_rows_right" "_law_rows_right" st__law_rows_right f fd) (hm : mg "_law_rows_right" = some (.ref f)) (hb : Binds K fd ["box", "form", "many", "turn"] []) (C__law_back : Cal P w K mg base G 1 "_law_back" ["one"] d__law_back) (C__law_cell_of : Cal P w K mg base G 5 "_law_cell_of" ["form", "later", "earlier", "turn"] d__law_cell_of) (C__law_near : Cal P w K mg base G 2 "_law_near" ["box", "row"] d__law_near) (C__law_no_row : Cal P w K mg base G 2 "_law_no_row" ["box", "row", "shift"] d__law_no_row) (C__law_sign : Cal P w K mg base G 1 "_law_sign" ["later", "earlier"] d__law_sign) (C__law_take : Cal P w K mg base G 1 "_law_take" ["box", "many"] d__law_take) (C__law_turned : Cal P w K mg base G 4 "_law_turned" ["value", "turn"] d__law_turned) (C__law_very : Cal P w K mg base G 1 "_law_very" ["given", "value"] d__law_very) (C__law_whole : Cal P w K mg base G 2 "_law_whole" ["box"] d__law_whole) : Cal P w K mg base G 6 "_law_rows_right" ["box", "form", "many", "turn"] d__law_rows_right :=
  have sc := sc__law_rows_right
  Cal.of (N := ["box", "form", "many", "turn", "earlier", "later", "due", "k", "told", "back", "wrong", "other", "first", "last", "a", "b"]) (b := b__law_rows_right) F hm hb sc fun cdv A outer s H vs Ex hg hr =>
   (ds_cons (ds_set (i := 4) sc.nd rfl (by first | exact Or.inl rfl | exact Or.inr rfl) (de_fz (de_callTy cp_tuple call_tuple_of rfl T.b_tuple (by decide +kernel) (ls_cons (de_lc (own := [(("k" : Str), 7)]) rfl sc.nd (di_range1 rfl T.b_range (la_cons (dd (dv 2)) la_nil)) (blkOk_by (by kernel_rfl)) (fun _ _ _ _ _ => (lgw_put (pg_name (i := 7) sc.nd rfl (by first | exact Or.inl rfl | exact Or.inr rfl)) (by decide))) (fun _ _ _ _ _ => dts_nil) (fun _ _ _ _ _ => (dd (de_cal C__law_whole hg hr (by decide) tk0 (ls_cons (dv 0) ls_nil))))) ls_nil))))
    (ds_cons (ds_set (i := 5) sc.nd rfl (by first | exact Or.inl rfl | exact Or.inr rfl) (de_fz (de_cal C__law_near hg hr (by decide) (takes_of rfl rfl rfl rfl) (ls_cons (dv 0) (ls_cons (de_fz (dv 4)) ls_nil)))))
    (ds_cons (ds_set (i := 6) sc.nd rfl (by first | exact Or.inl rfl | exact Or.inr rfl) (de_fz (de_callTy cp_tuple call_tuple_of rfl T.b_tuple (by decide +kernel) (ls_cons (de_lc (own := [(("a" : Str), 14), (("b" : Str), 15)]) rfl sc.nd (di_zip rfl T.b_zip (la_cons (dd (dv 5)) (la_cons (dd (dv 4)) la_nil))) (blkOk_by (by kernel_rfl)) (fun _ _ _ _ _ => (lgw_un rfl (lgsw_cons (lgw_put (pg_name (i := 14) sc.nd rfl (by first | exact Or.inl rfl | exact Or.inr rfl)) (by decide)) (lgsw_cons (lgw_put (pg_name (i := 15) sc.nd rfl (by first | exact Or.inl rfl | exact Or.inr rfl)) (by decide)) lgsw_nil)))) (fun _ _ _ _ _ => dts_nil) (fun _ _ _ _ _ => (dd (de_cal C__law_sign hg hr (by decide) tk0 (ls_cons (de_fz (dv 14)) (ls_cons (de_fz (dv 15)) ls_nil)))))) ls_nil))))
    (ds_cons (ds_for (passes_of rfl) rfl (di_range1 rfl T.b_range (la_cons (dd de_int) la_nil)) (lg_put (pg_name (i := 7) sc.nd rfl (by first | exact Or.inl rfl | exact Or.inr rfl))) (ds_cons (ds_set (i := 8) sc.nd rfl (by first | exact Or.inl rfl | exact Or.inr rfl) (de_fz (de_cal C__law_cell_of hg hr (by decide) (takes_of rfl rfl rfl rfl) (ls_cons (de_fz (dv 1)) (ls_cons (de_fz (dv 5)) (ls_cons (de_fz (dv 4)) (ls_cons (de_fz (de_mod (de_callTy cp_int call_int1 rfl T.b_int (by decide +kernel) (ls_cons (de_add rfl (dv 3) (dv 7)) ls_nil)) de_int)) ls_nil)))))))
    (ds_cons (ds_set (i := 9) sc.nd rfl (by first | exact Or.inl rfl | exact Or.inr rfl) (de_fz (de_cal C__law_cell_of hg hr (by decide) (takes_of rfl rfl rfl rfl) (ls_cons (de_fz (dv 1)) (ls_cons (de_fz (dv 4)) (ls_cons (de_fz (dv 5)) (ls_cons (de_fz (dv 3)) ls_nil)))))))
    (ds_cons (ds_if (L2.PW.pt (dw_or (dt_ne hr.units (de_callB cp_repr (cd_repr hg hr.units) rfl T.b_repr (by decide +kernel) (ls_cons (dv 8) ls_nil)) (de_callB cp_repr (cd_repr hg hr.units) rfl T.b_repr (by decide +kernel) (ls_cons (de_lst (la_cons (dd de_str) (la_cons (dd (dv 6)) la_nil))) ls_nil))) (dw_or1 (dt_ne hr.units (de_callB cp_repr (cd_repr hg hr.units) rfl T.b_repr (by decide +kernel) (ls_cons (dv 9) ls_nil)) (de_callB cp_repr (cd_repr hg hr.units) rfl T.b_repr (by decide +kernel) (ls_cons (de_lst (la_cons (dd de_str) (la_cons (dd (de_cal C__law_back hg hr (by decide) (takes_of rfl rfl rfl rfl) (ls_cons (de_fz (dv 6)) ls_nil))) la_nil))) ls_nil)))))) (ds_one (ds_ret de_bl)) ds_nil)
    (ds_one (ds_if (dt_ne hr.units (de_callB cp_repr (cd_repr hg hr.units) rfl T.b_repr (by decide +kernel) (ls_cons (de_cal C__law_turned hg hr (by decide) (takes_of rfl rfl rfl rfl) (ls_cons (de_fz (de_ix (dv 8) de_int (fun _ _ => rfl))) (ls_cons (de_fz (dv 7)) ls_nil))) ls_nil)) (de_callB cp_repr (cd_repr hg hr.units) rfl T.b_repr (by decide +kernel) (ls_cons (dv 9) ls_nil))) (ds_one (ds_ret de_bl)) ds_nil))))))
    (ds_cons (ds_par2 (i := 10) (j := 11) rfl sc.nd rfl rfl (by decide) rfl rfl (ls_cons (de_fz (de_cal C__law_no_row hg hr (by decide) (takes_of rfl rfl rfl rfl) (ls_cons (dv 0) (ls_cons (de_fz (dv 5)) (ls_cons de_int ls_nil))))) (ls_cons (de_fz de_non) ls_nil)) rfl)
    (ds_cons (ds_for (passes_of rfl) rfl (di_range1 rfl T.b_range (la_cons (dd de_int) la_nil)) (lg_put (pg_name (i := 7) sc.nd rfl (by first | exact Or.inl rfl | exact Or.inr rfl))) (ds_one (ds_if (L2.PW.pt (dw_or (dt_is (dv 11) de_non) (dw_or1 (dt_eq hr.units (de_callB cp_repr (cd_repr hg hr.units) rfl T.b_repr (by decide +kernel) (ls_cons (dv 11) ls_nil)) (de_callB cp_repr (cd_repr hg hr.units) rfl T.b_repr (by decide +kernel) (ls_cons (dv 10) ls_nil)))))) (ds_one (ds_set (i := 11) sc.nd rfl (by first | exact Or.inl rfl | exact Or.inr rfl) (de_fz (de_cal C__law_no_row hg hr (by decide) (takes_of rfl rfl rfl rfl) (ls_cons (dv 0) (ls_cons (de_fz (dv 4)) (ls_cons (de_fz (dv 7)) ls_nil))))))) ds_nil)))
    (ds_cons (ds_set (i := 8) sc.nd rfl (by first | exact Or.inl rfl | exact Or.inr rfl) (de_fz (de_cal C__law_cell_of hg hr (by decide) (takes_of rfl rfl rfl rfl) (ls_cons (de_fz (dv 1)) (ls_cons (de_fz (dv 5)) (ls_cons (de_fz (dv 10)) (ls_cons (de_fz (dv 3)) ls_nil)))))))
    (ds_cons (ds_if (L2.PW.pt (dw_or (dt_ne hr.units (de_ix (dv 8) de_int (fun _ _ => rfl)) de_str) (dw_or (dt_not (dt_truth (de_ix (dv 8) de_int (fun _ _ => rfl)))) (dw_or1 (dt_not (dt_truth (de_cal C__law_very hg hr (by decide) (takes_of rfl rfl rfl rfl) (ls_cons (de_fz (de_ix (dv 8) de_int (fun _ _ => rfl))) (ls_cons (dv 10) ls_nil))))))))) (ds_one (ds_ret de_bl)) ds_nil)
    (ds_cons (ds_par2 (i := 12) (j := 13) rfl sc.nd rfl rfl (by decide) rfl rfl (ls_cons (de_fz (de_cal C__law_no_row hg hr (by decide) (takes_of rfl rfl rfl rfl) (ls_cons (dv 0) (ls_cons (de_fz (dv 5)) (ls_cons de_int ls_nil))))) (ls_cons (de_fz (de_ix (de_lst (la_cons (dd (dv 5)) (la_cons (dd (dv 11)) la_nil))) (de_cal C__law_take hg hr (by decide) (takes_of rfl rfl rfl rfl) (ls_cons (dv 0) (ls_cons de_int ls_nil))) (fun _ _ => rfl))) ls_nil)) rfl)
    (ds_cons (ds_if (L2.PW.pt (dw_and (dt_eqW hr.units (dv 13) (dv 11)) (dw_and1 (dt_eq hr.units (de_callB cp_repr (cd_repr hg hr.units) rfl T.b_repr (by decide +kernel) (ls_cons (dv 12) ls_nil)) (de_callB cp_repr (cd_repr hg hr.units) rfl T.b_repr (by decide +kernel) (ls_cons (dv 11) ls_nil)))))) (ds_one (ds_set (i := 13) sc.nd rfl (by first | exact Or.inl rfl | exact Or.inr rfl) (de_fz (dv 4)))) ds_nil)
    (ds_cons (ds_set (i := 8) sc.nd rfl (by first | exact Or.inl rfl | exact Or.inr rfl) (de_fz (de_cal C__law_cell_of hg hr (by decide) (takes_of rfl rfl rfl rfl) (ls_cons (de_fz (dv 1)) (ls_cons (de_fz (dv 12)) (ls_cons (de_fz (dv 13)) (ls_cons (de_fz (de_sub de_int (dv 3))) ls_nil)))))))
    (ds_one (ds_ret (de_and (de_eq hr.units (de_ix (dv 8) de_int (fun _ _ => rfl)) de_str) (de_one (de_cal C__law_very hg hr (by decide) (takes_of rfl rfl rfl rfl) (ls_cons (de_fz (de_ix (dv 8) de_int (fun _ _ => rfl))) (ls_cons (dv 12) ls_nil))))))))))))))))))
end
end Lw
set_option Elab.async false
set_option linter.all false
set_option maxRecDepth 100000
set_option maxHeartbeats 4000000
namespace Lw
open PySem L2 DL PySem.Spec PyProof.Rows
section
variable {P : Program} {w : World} {K : PySem.W.Frag} {mg : Str → Option Value} {base : Heap} {G : Str → Addr} {f : Addr} {fd : FuncData}
theorem sc__law_sign : FnScope ["later", "earlier"] ["later", "earlier"] (defScope st__law_sign) := ⟨rfl, rfl, rfl, by decide +kernel, rfl, by decide +kernel, by decide +kernel⟩
theorem ok__law_sign (T : Txt w K mg G) (F : L2.Fun K "_law_sign" "_law_sign" st__law_sign f fd) (hm : mg "_law_sign" = some (.ref f)) (hb : Binds K fd ["later", "earlier"] [])  : Cal P w K mg base G 1 "_law_sign" ["later", "earlier"] d__law_sign :=
  have sc := sc__law_sign
  Cal.of (N := ["later", "earlier"]) (b := b__law_sign) F hm hb sc fun cdv A outer s H vs Ex hg hr =>
   (ds_one (ds_ret (de_if (dt_lt (dv 0) (dv 1)) de_str (de_if (dt_eq hr.units (dv 0) (dv 1)) de_str de_str))))
end
end Lw
set_option Elab.async false
set_option linter.all false
set_option maxRecDepth 100000
set_option maxHeartbeats 4000000
namespace Lw
open PySem L2 DL PySem.Spec PyProof.Rows
section
variable {P : Program} {w : World} {K : PySem.W.Frag} {mg : Str → Option Value} {base : Heap} {G : Str → Addr} {f : Addr} {fd : FuncData}
theorem sc__law_take : FnScope ["box", "many", "mixed", "digit"] ["box", "many"] (defScope st__law_take) := ⟨rfl, rfl, rfl, by decide +kernel, rfl, by decide +kernel, by decide +kernel⟩
theorem ok__law_take (T : Txt w K mg G) (F : L2.Fun K "_law_take" "_law_take" st__law_take f fd) (hm : mg "_law_take" = some (.ref f)) (hb : Binds K fd ["box", "many"] [])  : Cal P w K mg base G 1 "_law_take" ["box", "many"] d__law_take :=
  have sc := sc__law_take
  Cal.of (N := ["box", "many", "mixed", "digit"]) (b := b__law_take) F hm hb sc fun cdv A outer s H vs Ex hg hr =>
   (ds_cons (ds_if (L2.PW.pt (dw_and (dt_truth (de_ix (dv 0) de_int (fun _ _ => rfl))) (dw_and1 (dt_gt (de_ix (dv 0) de_int (fun _ _ => rfl)) de_int)))) (ds_cons (ds_set (i := 3) sc.nd rfl (by first | exact Or.inl rfl | exact Or.inr rfl) (de_fz (de_mod (de_callTy cp_int call_int1 rfl T.b_int (by decide +kernel) (ls_cons (de_ix (dv 0) de_int (fun _ _ => rfl)) ls_nil)) (dv 1))))
    (ds_cons (ds_asg (de_fz (de_fdiv (de_ix (dv 0) de_int (fun _ _ => rfl)) (dv 1))) (lg_ix (dv 0) de_int))
    (ds_one (ds_ret (dv 3))))) ds_nil)
    (ds_cons (ds_asg (de_fz (de_add rfl (de_ix (dv 0) de_int (fun _ _ => rfl)) de_int)) (lg_ix (dv 0) de_int))
    (ds_cons (ds_set (i := 2) sc.nd rfl (by first | exact Or.inl rfl | exact Or.inr rfl) (de_fz (de_mod (de_callTy cp_int call_int1 rfl T.b_int (by decide +kernel) (ls_cons (de_pow (de_add rfl (de_add rfl (de_ix (dv 0) de_int (fun _ _ => rfl)) (de_mul de_int (de_ix (dv 0) de_int (fun _ _ => rfl)))) de_int) de_int) ls_nil)) de_int)))
    (ds_one (ds_ret (de_mod (de_fdiv (de_mod (de_callTy cp_int call_int1 rfl T.b_int (by decide +kernel) (ls_cons (de_pow (de_add rfl (de_mul (dv 2) de_int) (de_mul de_int (de_ix (dv 0) de_int (fun _ _ => rfl)))) de_int) ls_nil)) de_int) de_int) (dv 1)))))))
end
end Lw
set_option Elab.async false
set_option linter.all false
set_option maxRecDepth 100000
set_option maxHeartbeats 4000000
namespace Lw
open PySem L2 DL PySem.Spec PyProof.Rows
section
variable {P : Program} {w : World} {K : PySem.W.Frag} {mg : Str → Option Value} {base : Heap} {G : Str → Addr} {f : Addr} {fd : FuncData}
theorem sc__law_turned : FnScope ["value", "turn", "e"] ["value", "turn"] (defScope st__law_turned) := ⟨rfl, rfl, rfl, by decide +kernel, rfl, by decide +kernel, by decide +kernel⟩
theorem ok__law_turned (T : Txt w K mg G) (F : L2.Fun K "_law_turned" "_law_turned" st__law_turned f fd) (hm : mg "_law_turned" = some (.ref f)) (hb : Binds K fd ["value", "turn"] []) (C_turned : Cal P w K mg base G 3 "turned" ["cell"] d_turned) (B_turned_0 : KbAt K mg "turned" ["cell"] ["cell"] [0]) : Cal P w K mg base G 4 "_law_turned" ["value", "turn"] d__law_turned :=
  have sc := sc__law_turned
  Cal.of (N := ["value", "turn", "e"]) (b := b__law_turned) F hm hb sc fun cdv A outer s H vs Ex hg hr =>
   (ds_one (ds_try (xs := xcls) T.xs rfl rfl sc.nd (takes_of rfl rfl rfl rfl) (fun W pn xe tkT poT => (ds_one (ds_ret (de_lst (la_cons (dd de_str) (la_cons (dd (de_if (dt_eq hr.units (dv 1) de_int) (de_cal C_turned hg hr (by decide) tkT (ls_cons (de_fz (dv 0)) ls_nil)) (de_calK (ks := ["cell"]) C_turned B_turned_0 hg hr (by decide) tkT (lk_cons (de_fz (dv 0)) lk_nil)))) la_nil)))))) (.named (by decide +kernel) rfl (by decide) rfl rfl (fun a oe cls d pn hz hf => (hs_list (ph_str (ph_fld T.xs T.n_given hz hf (pv 2) (ph_isE T.xi T.b_isinstance T.xs hz hf (pv 2) ph_nil))))) .nil)))
end
end Lw
set_option Elab.async false
set_option linter.all false
set_option maxRecDepth 100000
set_option maxHeartbeats 4000000
namespace Lw
open PySem L2 DL PySem.Spec PyProof.Rows
section
variable {P : Program} {w : World} {K : PySem.W.Frag} {mg : Str → Option Value} {base : Heap} {G : Str → Addr} {f : Addr} {fd : FuncData}
theorem sc__law_turns_right : FnScope ["box", "many", "turn", "found", "one", "odd", "wrong", "five", "values", "k", "longest", "place", "shift", "told", "sign"] ["box", "many", "turn"] (defScope st__law_turns_right) := ⟨rfl, rfl, rfl, by decide +kernel, rfl, by decide +kernel, by decide +kernel⟩
theorem ok__law_turns_right (T : Txt w K mg G) (F : L2.Fun K "_law_turns_right" "_law_turns_right" st__law_turns_right f fd) (hm : mg "_law_turns_right" = some (.ref f)) (hb : Binds K fd ["box", "many", "turn"] []) (C__law_all : Cal P w K mg base G 1 "_law_all" ["many"] d__law_all) (C__law_back : Cal P w K mg base G 1 "_law_back" ["one"] d__law_back) (C__law_take : Cal P w K mg base G 1 "_law_take" ["box", "many"] d__law_take) (C__law_turned : Cal P w K mg base G 4 "_law_turned" ["value", "turn"] d__law_turned) (C__law_very : Cal P w K mg base G 1 "_law_very" ["given", "value"] d__law_very) : Cal P w K mg base G 5 "_law_turns_right" ["box", "many", "turn"] d__law_turns_right :=
  have sc := sc__law_turns_right
  Cal.of (N := ["box", "many", "turn", "found", "one", "odd", "wrong", "five", "values", "k", "longest", "place", "shift", "told", "sign"]) (b := b__law_turns_right) F hm hb sc fun cdv A outer s H vs Ex hg hr =>
   (ds_cons (ds_set (i := 3) sc.nd rfl (by first | exact Or.inl rfl | exact Or.inr rfl) (de_fz (de_cal C__law_all hg hr (by decide) (takes_of rfl rfl rfl rfl) (ls_cons (de_fz (dv 1)) ls_nil))))
    (ds_cons (ds_set (i := 4) sc.nd rfl (by first | exact Or.inl rfl | exact Or.inr rfl) (de_fz (de_ix (dv 3) (de_cal C__law_take hg hr (by decide) (takes_of rfl rfl rfl rfl) (ls_cons (dv 0) (ls_cons (de_fz (de_callB cp_len cd_len rfl T.b_len (by decide +kernel) (ls_cons (dv 3) ls_nil))) ls_nil))) (fun _ _ => rfl))))
    (ds_cons (ds_parN rfl (pgs_cons (pg_name (i := 11) sc.nd rfl (by first | exact Or.inl rfl | exact Or.inr rfl)) (pgs_cons (pg_name (i := 12) sc.nd rfl (by first | exact Or.inl rfl | exact Or.inr rfl)) pgs_nil)) (ls_cons (de_fz (de_cal C__law_take hg hr (by decide) (takes_of rfl rfl rfl rfl) (ls_cons (dv 0) (ls_cons (de_fz (dv 1)) ls_nil)))) (ls_cons (de_fz (de_cal C__law_take hg hr (by decide) (takes_of rfl rfl rfl rfl) (ls_cons (dv 0) (ls_cons de_int ls_nil)))) ls_nil)))
    (ds_cons (ds_set (i := 5) sc.nd rfl (by first | exact Or.inl rfl | exact Or.inr rfl) (de_fz (de_ix (de_lst (la_cons (dd de_str) (la_cons (dd de_str) (la_cons (dd de_str) (la_cons (dd de_non) (la_cons (dd de_bl) (la_cons (dd de_int) (la_cons (dd (de_tup (la_cons (dd de_str) la_nil))) (la_cons (dd (de_lst (la_cons (dd de_str) la_nil))) (la_cons (dd de_str) la_nil)))))))))) (de_cal C__law_take hg hr (by decide) (takes_of rfl rfl rfl rfl) (ls_cons (dv 0) (ls_cons de_int ls_nil))) (fun _ _ => rfl))))
    (ds_cons (ds_set (i := 6) sc.nd rfl (by first | exact Or.inl rfl | exact Or.inr rfl) (de_fz (de_callTy cp_tuple call_tuple_of rfl T.b_tuple (by decide +kernel) (ls_cons (de_lc (own := [(("k" : Str), 9), (("sign" : Str), 14)]) rfl sc.nd (di_enum rfl T.b_enumerate (la_cons (dd (dv 4)) la_nil)) (blkOk_by (by kernel_rfl)) (fun _ _ _ _ _ => (lgw_un rfl (lgsw_cons (lgw_put (pg_name (i := 9) sc.nd rfl (by first | exact Or.inl rfl | exact Or.inr rfl)) (by decide)) (lgsw_cons (lgw_put (pg_name (i := 14) sc.nd rfl (by first | exact Or.inl rfl | exact Or.inr rfl)) (by decide)) lgsw_nil)))) (fun _ _ _ _ _ => dts_nil) (fun _ _ _ _ _ => (dd (de_if (dt_eq hr.units (dv 9) (dv 11)) (dv 5) (dv 14))))) ls_nil))))
    (ds_cons (ds_set (i := 7) sc.nd rfl (by first | exact Or.inl rfl | exact Or.inr rfl) (de_fz (de_sl (de_add rfl (dv 4) (de_tup (la_cons (dd de_str) (la_cons (dd de_str) (la_cons (dd de_str) (la_cons (dd de_str) la_nil)))))) do_none (do_some de_int))))
    (ds_cons (ds_set (i := 8) sc.nd rfl (by first | exact Or.inl rfl | exact Or.inr rfl) (de_fz (de_lst (la_cons (rr (de_callTy cp_list call_list_of rfl T.b_list (by decide +kernel) (ls_cons (dv 4) ls_nil))) (la_cons (dd (de_bm PySem.F.plainAttrs_str PySem.F.slot_str_join PySem.F.type_str_join mt_join md_join de_str (la_cons (dd (dv 4)) la_nil))) (la_cons (dd (dv 6)) (la_cons (dd (dv 7)) (la_cons (dd (de_tup la_nil)) (la_cons (dd de_non) (la_cons (dd (de_tup (la_cons (dd (dv 4)) la_nil))) (la_cons (rr (de_dispC [(.inr ("<" : Str), .int 1)] [.int 1] (pps_cons pe_str pe_int pps_nil) (fun _ _ => (.cons (.int _) .nil)))) (la_cons (dd de_int) (la_cons (dd (de_revT (dv 7))) la_nil)))))))))))))
    (ds_cons (ds_for (passes_of rfl) rfl (di_range1 rfl T.b_range (la_cons (dd de_int) la_nil)) (lg_put (pg_name (i := 9) sc.nd rfl (by first | exact Or.inl rfl | exact Or.inr rfl))) (ds_cons (ds_set (i := 13) sc.nd rfl (by first | exact Or.inl rfl | exact Or.inr rfl) (de_fz (de_cal C__law_turned hg hr (by decide) (takes_of rfl rfl rfl rfl) (ls_cons (de_fz (de_ix (dv 8) (de_mod (de_callTy cp_int call_int1 rfl T.b_int (by decide +kernel) (ls_cons (de_add rfl (dv 12) (dv 9)) ls_nil)) de_int) (fun _ _ => rfl))) (ls_cons (de_fz (de_mod (de_callTy cp_int call_int1 rfl T.b_int (by decide +kernel) (ls_cons (de_add rfl (dv 2) (dv 9)) ls_nil)) de_int)) ls_nil)))))
    (ds_cons (ds_if (L2.PW.pt (dw_or (dt_ne hr.units (de_ix (dv 13) de_int (fun _ _ => rfl)) de_str) (dw_or (dt_not (dt_truth (de_ix (dv 13) de_int (fun _ _ => rfl)))) (dw_or1 (dt_not (dt_truth (de_cal C__law_very hg hr (by decide) (takes_of rfl rfl rfl rfl) (ls_cons (de_fz (de_ix (dv 13) de_int (fun _ _ => rfl))) (ls_cons (de_ix (dv 8) (de_mod (de_callTy cp_int call_int1 rfl T.b_int (by decide +kernel) (ls_cons (de_add rfl (dv 12) (dv 9)) ls_nil)) de_int) (fun _ _ => rfl)) ls_nil))))))))) (ds_one (ds_ret de_bl)) ds_nil)
    (ds_one (ds_if (dt_ne hr.units (de_callB cp_repr (cd_repr hg hr.units) rfl T.b_repr (by decide +kernel) (ls_cons (de_cal C__law_turned hg hr (by decide) (takes_of rfl rfl rfl rfl) (ls_cons (de_fz (dv 4)) (ls_cons (de_fz (de_mod (de_callTy cp_int call_int1 rfl T.b_int (by decide +kernel) (ls_cons (de_add rfl (dv 2) (dv 9)) ls_nil)) de_int)) ls_nil))) ls_nil)) (de_callB cp_repr (cd_repr hg hr.units) rfl T.b_repr (by decide +kernel) (ls_cons (de_lst (la_cons (dd de_str) (la_cons (dd (de_cal C__law_back hg hr (by decide) (takes_of rfl rfl rfl rfl) (ls_cons (de_fz (dv 4)) ls_nil))) la_nil))) ls_nil))) (ds_one (ds_ret de_bl)) ds_nil)))))
    (ds_cons (ds_set (i := 10) sc.nd rfl (by first | exact Or.inl rfl | exact Or.inr rfl) (de_fz (de_sl (de_add rfl (de_add rfl (de_add rfl (dv 4) (dv 4)) (dv 4)) (dv 4)) do_none (do_some de_int))))
    (ds_one (ds_ret (de_eq hr.units (de_callB cp_repr (cd_repr hg hr.units) rfl T.b_repr (by decide +kernel) (ls_cons (de_cal C__law_turned hg hr (by decide) (takes_of rfl rfl rfl rfl) (ls_cons (de_fz (dv 10)) (ls_cons (de_fz (dv 2)) ls_nil))) ls_nil)) (de_callB cp_repr (cd_repr hg hr.units) rfl T.b_repr (by decide +kernel) (ls_cons (de_lst (la_cons (dd de_str) (la_cons (dd (de_cal C__law_back hg hr (by decide) (takes_of rfl rfl rfl rfl) (ls_cons (de_fz (dv 10)) ls_nil))) la_nil))) ls_nil))))))))))))))
end
end Lw
set_option Elab.async false
set_option linter.all false
set_option maxRecDepth 100000
set_option maxHeartbeats 4000000
namespace Lw
open PySem L2 DL PySem.Spec PyProof.Rows
section
variable {P : Program} {w : World} {K : PySem.W.Frag} {mg : Str → Option Value} {base : Heap} {G : Str → Addr} {f : Addr} {fd : FuncData}
theorem sc__law_very : FnScope ["given", "value"] ["given", "value"] (defScope st__law_very) := ⟨rfl, rfl, rfl, by decide +kernel, rfl, by decide +kernel, by decide +kernel⟩
theorem ok__law_very (T : Txt w K mg G) (F : L2.Fun K "_law_very" "_law_very" st__law_very f fd) (hm : mg "_law_very" = some (.ref f)) (hb : Binds K fd ["given", "value"] [])  : Cal P w K mg base G 1 "_law_very" ["given", "value"] d__law_very :=
  have sc := sc__law_very
  Cal.of (N := ["given", "value"]) (b := b__law_very) F hm hb sc fun cdv A outer s H vs Ex hg hr =>
   (ds_cons (ds_if (dt_ne hr.units (de_callB cp_repr (cd_repr hg hr.units) rfl T.b_repr (by decide +kernel) (ls_cons (dv 0) ls_nil)) (de_callB cp_repr (cd_repr hg hr.units) rfl T.b_repr (by decide +kernel) (ls_cons (dv 1) ls_nil))) (ds_one (ds_ret de_bl)) ds_nil)
    (ds_cons (ds_if (dt_truth (de_isi T.k_list (.ty _) (pe_bltn rfl T.b_list (by decide +kernel) rfl) (dv 1) rfl T.b_isinstance)) (ds_one (ds_expr (de_bm PySem.F.plainAttrs_list PySem.F.slot_list_insert PySem.F.type_list_insert mt_insert md_insert (dv 1) (la_cons (dd de_int) (la_cons (dd de_str) la_nil))))) ds_nil)
    (ds_cons (ds_if (dt_truth (de_isi T.k_dict (.ty _) (pe_bltn rfl T.b_dict (by decide +kernel) rfl) (dv 1) rfl T.b_isinstance)) (ds_one (ds_dput (hu1 hr) (dv 1) de_str (dd de_int))) ds_nil)
    (ds_one (ds_ret (de_eq hr.units (de_callB cp_repr (cd_repr hg hr.units) rfl T.b_repr (by decide +kernel) (ls_cons (dv 0) ls_nil)) (de_callB cp_repr (cd_repr hg hr.units) rfl T.b_repr (by decide +kernel) (ls_cons (dv 1) ls_nil))))))))
end
end Lw
set_option Elab.async false
set_option linter.all false
set_option maxRecDepth 100000
set_option maxHeartbeats 4000000
namespace Lw
open PySem L2 DL PySem.Spec PyProof.Rows
section
variable {P : Program} {w : World} {K : PySem.W.Frag} {mg : Str → Option Value} {base : Heap} {G : Str → Addr} {f : Addr} {fd : FuncData}
theorem sc__law_whole : FnScope ["box", "way", "great"] ["box"] (defScope st__law_whole) := ⟨rfl, rfl, rfl, by decide +kernel, rfl, by decide +kernel, by decide +kernel⟩
theorem ok__law_whole (T : Txt w K mg G) (F : L2.Fun K "_law_whole" "_law_whole" st__law_whole f fd) (hm : mg "_law_whole" = some (.ref f)) (hb : Binds K fd ["box"] []) (C__law_take : Cal P w K mg base G 1 "_law_take" ["box", "many"] d__law_take) : Cal P w K mg base G 2 "_law_whole" ["box"] d__law_whole :=
  have sc := sc__law_whole
  Cal.of (N := ["box", "way", "great"]) (b := b__law_whole) F hm hb sc fun cdv A outer s H vs Ex hg hr =>
   (ds_cons (ds_set (i := 1) sc.nd rfl (by first | exact Or.inl rfl | exact Or.inr rfl) (de_fz (de_cal C__law_take hg hr (by decide) (takes_of rfl rfl rfl rfl) (ls_cons (dv 0) (ls_cons de_int ls_nil)))))
    (ds_cons (ds_if (dt_lt (dv 1) de_int) (ds_one (ds_ret (de_sub (de_cal C__law_take hg hr (by decide) (takes_of rfl rfl rfl rfl) (ls_cons (dv 0) (ls_cons de_int ls_nil))) de_int))) ds_nil)
    (ds_cons (ds_set (i := 2) sc.nd rfl (by first | exact Or.inl rfl | exact Or.inr rfl) (de_fz (de_add rfl (de_mul (de_callTy cp_int call_int1 rfl T.b_int (by decide +kernel) (ls_cons (de_cal C__law_take hg hr (by decide) (takes_of rfl rfl rfl rfl) (ls_cons (dv 0) (ls_cons (de_fz (de_pow de_int de_int)) ls_nil))) ls_nil)) (de_pow de_int de_int)) (de_cal C__law_take hg hr (by decide) (takes_of rfl rfl rfl rfl) (ls_cons (dv 0) (ls_cons (de_fz (de_sub (de_pow de_int de_int) de_int)) ls_nil))))))
    (ds_one (ds_ret (de_ix (de_lst (la_cons (dd (dv 2)) (la_cons (dd (de_neg (dv 2))) la_nil))) (de_sub (dv 1) de_int) (fun _ _ => rfl)))))))
end
end Lw
set_option Elab.async false
set_option linter.all false
set_option maxRecDepth 100000
set_option maxHeartbeats 4000000
namespace Lw
open PySem L2 DL PySem.Spec PyProof.Rows
section
variable {P : Program} {w : World} {K : PySem.W.Frag} {mg : Str → Option Value} {base : Heap} {G : Str → Addr} {f : Addr} {fd : FuncData}
theorem sc_all_cells : FnScope ["form"] ["form"] (defScope st_all_cells) := ⟨rfl, rfl, rfl, by decide +kernel, rfl, by decide +kernel, by decide +kernel⟩
theorem ok_all_cells (T : Txt w K mg G) (F : L2.Fun K "all_cells" "all_cells" st_all_cells f fd) (hm : mg "all_cells" = some (.ref f)) (hb : Binds K fd ["form"] []) (C_cells_of : Cal P w K mg base G 1 "cells_of" ["many"] d_cells_of) : Cal P w K mg base G 2 "all_cells" ["form"] d_all_cells :=
  have sc := sc_all_cells
  Cal.of (N := ["form"]) (b := b_all_cells) F hm hb sc fun cdv A outer s H vs Ex hg hr =>
   (ds_one (ds_ret (de_cal C_cells_of hg hr (by decide) (takes_of rfl rfl rfl rfl) (ls_cons (de_fz (de_callB cp_len cd_len rfl T.b_len (by decide +kernel) (ls_cons (de_fld T.a_columns (dv 0)) ls_nil))) ls_nil))))
end
end Lw
set_option Elab.async false
set_option linter.all false
set_option maxRecDepth 100000
set_option maxHeartbeats 4000000
namespace Lw
open PySem L2 DL PySem.Spec PyProof.Rows
section
variable {P : Program} {w : World} {K : PySem.W.Frag} {mg : Str → Option Value} {base : Heap} {G : Str → Addr} {f : Addr} {fd : FuncData}
theorem sc_are_unlike : FnScope ["items"] ["items"] (defScope st_are_unlike) := ⟨rfl, rfl, rfl, by decide +kernel, rfl, by decide +kernel, by decide +kernel⟩
theorem ok_are_unlike (T : Txt w K mg G) (F : L2.Fun K "are_unlike" "are_unlike" st_are_unlike f fd) (hm : mg "are_unlike" = some (.ref f)) (hb : Binds K fd ["items"] [])  : Cal P w K mg base G 1 "are_unlike" ["items"] d_are_unlike :=
  have sc := sc_are_unlike
  Cal.of (N := ["items"]) (b := b_are_unlike) F hm hb sc fun cdv A outer s H vs Ex hg hr =>
   (ds_one (ds_ret (de_eq hr.units (de_lenSet rfl T.b_len T.b_set (dv 0)) (de_callB cp_len cd_len rfl T.b_len (by decide +kernel) (ls_cons (dv 0) ls_nil)))))
end
end Lw
set_option Elab.async false
set_option linter.all false
set_option maxRecDepth 100000
set_option maxHeartbeats 4000000
namespace Lw
open PySem L2 DL PySem.Spec PyProof.Rows
section
variable {P : Program} {w : World} {K : PySem.W.Frag} {mg : Str → Option Value} {base : Heap} {G : Str → Addr} {f : Addr} {fd : FuncData}
theorem sc_are_unlike_names : FnScope ["value", "least", "most", "item"] ["value", "least", "most"] (defScope st_are_unlike_names) := ⟨rfl, rfl, rfl, by decide +kernel, rfl, by decide +kernel, by decide +kernel⟩
theorem ok_are_unlike_names (T : Txt w K mg G) (F : L2.Fun K "are_unlike_names" "are_unlike_names" st_are_unlike_names f fd) (hm : mg "are_unlike_names" = some (.ref f)) (hb : Binds K fd ["value", "least", "most"] []) (C_are_unlike : Cal P w K mg base G 1 "are_unlike" ["items"] d_are_unlike) (C_is_listed : Cal P w K mg base G 1 "is_listed" ["value"] d_is_listed) (C_is_name : Cal P w K mg base G 2 "is_name" ["value"] d_is_name) : Cal P w K mg base G 3 "are_unlike_names" ["value", "least", "most"] d_are_unlike_names :=
  have sc := sc_are_unlike_names
  Cal.of (N := ["value", "least", "most", "item"]) (b := b_are_unlike_names) F hm hb sc fun cdv A outer s H vs Ex hg hr =>
   (ds_cons (ds_if (L2.PW.pt (dw_or (dt_not (dt_truth (de_cal C_is_listed hg hr (by decide) (takes_of rfl rfl rfl rfl) (ls_cons (de_fz (dv 0)) ls_nil)))) (dw_or1 (dt_not (dt_chain op_le od_le op_le od_le (dv 1) (de_callB cp_len cd_len rfl T.b_len (by decide +kernel) (ls_cons (dv 0) ls_nil)) (dv 2)))))) (ds_one (ds_ret de_bl)) ds_nil)
    (ds_one (ds_ret (de_and (de_callB cp_all (cr_all rfl) rfl T.b_all (by decide +kernel) (ls_cons (de_lc (own := [(("item" : Str), 3)]) rfl sc.nd (di_seq (dv 0)) (blkOk_by (by kernel_rfl)) (fun _ _ _ _ _ => (lgw_put (pg_name (i := 3) sc.nd rfl (by first | exact Or.inl rfl | exact Or.inr rfl)) (by decide))) (fun _ _ _ _ _ => dts_nil) (fun _ _ _ _ _ => (dd (de_cal C_is_name hg hr (by decide) tk0 (ls_cons (de_fz (dv 3)) ls_nil))))) ls_nil)) (de_one (de_cal C_are_unlike hg hr (by decide) (takes_of rfl rfl rfl rfl) (ls_cons (de_fz (dv 0)) ls_nil)))))))
end
end Lw
set_option Elab.async false
set_option linter.all false
set_option maxRecDepth 100000
set_option maxHeartbeats 4000000
namespace Lw
open PySem L2 DL PySem.Spec PyProof.Rows
section
variable {P : Program} {w : World} {K : PySem.W.Frag} {mg : Str → Option Value} {base : Heap} {G : Str → Addr} {f : Addr} {fd : FuncData}
theorem sc_cell : FnScope ["form", "later", "earlier"] ["form", "later", "earlier"] (defScope st_cell) := ⟨rfl, rfl, rfl, by decide +kernel, rfl, by decide +kernel, by decide +kernel⟩
theorem ok_cell (T : Txt w K mg G) (F : L2.Fun K "cell" "cell" st_cell f fd) (hm : mg "cell" = some (.ref f)) (hb : Binds K fd ["form", "later", "earlier"] []) (C_cell_of : Cal P w K mg base G 2 "cell_of" ["later", "earlier"] d_cell_of) (C_check_row : Cal P w K mg base G 3 "check_row" ["form", "row"] d_check_row) : Cal P w K mg base G 4 "cell" ["form", "later", "earlier"] d_cell :=
  have sc := sc_cell
  Cal.of (N := ["form", "later", "earlier"]) (b := b_cell) F hm hb sc fun cdv A outer s H vs Ex hg hr =>
   (ds_cons (ds_expr (de_cal C_check_row hg hr (by decide) (takes_of rfl rfl rfl rfl) (ls_cons (de_fz (dv 0)) (ls_cons (de_fz (dv 1)) ls_nil))))
    (ds_cons (ds_expr (de_cal C_check_row hg hr (by decide) (takes_of rfl rfl rfl rfl) (ls_cons (de_fz (dv 0)) (ls_cons (de_fz (dv 2)) ls_nil))))
    (ds_one (ds_ret (de_cal C_cell_of hg hr (by decide) (takes_of rfl rfl rfl rfl) (ls_cons (de_fz (dv 1)) (ls_cons (de_fz (dv 2)) ls_nil)))))))
end
end Lw
set_option Elab.async false
set_option linter.all false
set_option maxRecDepth 100000
set_option maxHeartbeats 4000000
namespace Lw
open PySem L2 DL PySem.Spec PyProof.Rows
section
variable {P : Program} {w : World} {K : PySem.W.Frag} {mg : Str → Option Value} {base : Heap} {G : Str → Addr} {f : Addr} {fd : FuncData}
theorem sc_cell_of : FnScope ["later", "earlier", "one", "other"] ["later", "earlier"] (defScope st_cell_of) := ⟨rfl, rfl, rfl, by decide +kernel, rfl, by decide +kernel, by decide +kernel⟩
theorem ok_cell_of (T : Txt w K mg G) (F : L2.Fun K "cell_of" "cell_of" st_cell_of f fd) (hm : mg "cell_of" = some (.ref f)) (hb : Binds K fd ["later", "earlier"] []) (C_sign_of : Cal P w K mg base G 1 "sign_of" ["later", "earlier"] d_sign_of) : Cal P w K mg base G 2 "cell_of" ["later", "earlier"] d_cell_of :=
  have sc := sc_cell_of
  Cal.of (N := ["later", "earlier", "one", "other"]) (b := b_cell_of) F hm hb sc fun cdv A outer s H vs Ex hg hr =>
   (ds_one (ds_ret (de_callTy cp_tuple call_tuple_of rfl T.b_tuple (by decide +kernel) (ls_cons (de_lc (own := [(("one" : Str), 2), (("other" : Str), 3)]) rfl sc.nd (di_zip rfl T.b_zip (la_cons (dd (dv 0)) (la_cons (dd (dv 1)) la_nil))) (blkOk_by (by kernel_rfl)) (fun _ _ _ _ _ => (lgw_un rfl (lgsw_cons (lgw_put (pg_name (i := 2) sc.nd rfl (by first | exact Or.inl rfl | exact Or.inr rfl)) (by decide)) (lgsw_cons (lgw_put (pg_name (i := 3) sc.nd rfl (by first | exact Or.inl rfl | exact Or.inr rfl)) (by decide)) lgsw_nil)))) (fun _ _ _ _ _ => dts_nil) (fun _ _ _ _ _ => (dd (de_cal C_sign_of hg hr (by decide) tk0 (ls_cons (de_fz (dv 2)) (ls_cons (de_fz (dv 3)) ls_nil)))))) ls_nil))))
end
end Lw
set_option Elab.async false
set_option linter.all false
set_option maxRecDepth 100000
set_option maxHeartbeats 4000000
namespace Lw
open PySem L2 DL PySem.Spec PyProof.Rows
section
variable {P : Program} {w : World} {K : PySem.W.Frag} {mg : Str → Option Value} {base : Heap} {G : Str → Addr} {f : Addr} {fd : FuncData}
theorem sc_cells_of : FnScope ["many", "cells", "_", "one", "sign"] ["many"] (defScope st_cells_of) := ⟨rfl, rfl, rfl, by decide +kernel, rfl, by decide +kernel, by decide +kernel⟩
theorem ok_cells_of (T : Txt w K mg G) (F : L2.Fun K "cells_of" "cells_of" st_cells_of f fd) (hm : mg "cells_of" = some (.ref f)) (hb : Binds K fd ["many"] [])  : Cal P w K mg base G 1 "cells_of" ["many"] d_cells_of :=
  have sc := sc_cells_of
  Cal.of (N := ["many", "cells", "_", "one", "sign"]) (b := b_cells_of) F hm hb sc fun cdv A outer s H vs Ex hg hr =>
   (ds_cons (ds_set (i := 1) sc.nd rfl (by first | exact Or.inl rfl | exact Or.inr rfl) (de_fz (de_lst (la_cons (dd (de_tup la_nil)) la_nil))))
    (ds_cons (ds_for (passes_of rfl) rfl (di_range1 rfl T.b_range (la_cons (dd (dv 0)) la_nil)) (lg_put (pg_name (i := 2) sc.nd rfl (by first | exact Or.inl rfl | exact Or.inr rfl))) (ds_one (ds_setLc2 (own := [(("one" : Str), 3), (("sign" : Str), 4)]) (vs1 := [4]) rfl sc.nd (i := 1) rfl rfl (sw_true rfl rfl rfl (by decide +kernel)) (di_seq (dv 1)) (blkOk_by (by kernel_rfl)) (by decide) (fun _ _ _ _ _ => (lgw_put (pg_name (i := 3) sc.nd rfl (by first | exact Or.inl rfl | exact Or.inr rfl)) (by decide))) (fun _ _ _ _ _ => dts_nil) (fun _ _ _ _ _ => (di_keysW T.km_TURNED)) (fun _ _ _ _ _ => (lgw_put (pg_name (i := 4) sc.nd rfl (by first | exact Or.inl rfl | exact Or.inr rfl)) (by decide))) (fun _ _ _ _ _ => dts_nil) (fun _ _ _ _ _ => (dd (de_tup (la_star (dv 3) (la_cons (dd (dv 4)) la_nil))))))))
    (ds_one (ds_ret (dv 1)))))
end
end Lw
set_option Elab.async false
set_option linter.all false
set_option maxRecDepth 100000
set_option maxHeartbeats 4000000
namespace Lw
open PySem L2 DL PySem.Spec PyProof.Rows
section
variable {P : Program} {w : World} {K : PySem.W.Frag} {mg : Str → Option Value} {base : Heap} {G : Str → Addr} {f : Addr} {fd : FuncData}
theorem sc_check_row : FnScope ["form", "row"] ["form", "row"] (defScope st_check_row) := ⟨rfl, rfl, rfl, by decide +kernel, rfl, by decide +kernel, by decide +kernel⟩
theorem ok_check_row (T : Txt w K mg G) (F : L2.Fun K "check_row" "check_row" st_check_row f fd) (hm : mg "check_row" = some (.ref f)) (hb : Binds K fd ["form", "row"] []) (C_Form_is_row : CalM P w K mg base G 2 "Form" "is_row" ["self", "value"] d_Form_is_row) (X_InvalidRow : CalX P w K mg base G "InvalidRow" "given") : Cal P w K mg base G 3 "check_row" ["form", "row"] d_check_row :=
  have sc := sc_check_row
  Cal.of (N := ["form", "row"]) (b := b_check_row) F hm hb sc fun cdv A outer s H vs Ex hg hr =>
   (ds_one (ds_if (dt_not (dt_truth (de_calM C_Form_is_row hg hr (by decide) (takes_of rfl rfl rfl rfl) (dv 0) (ls_cons (de_fz (dv 1)) ls_nil)))) (ds_one (ds_raise X_InvalidRow rfl (takes_of rfl rfl rfl rfl) hr (by decide) (dd (dv 1)))) ds_nil))
end
end Lw
set_option Elab.async false
set_option linter.all false
set_option maxRecDepth 100000
set_option maxHeartbeats 4000000
namespace Lw
open PySem L2 DL PySem.Spec PyProof.Rows
section
variable {P : Program} {w : World} {K : PySem.W.Frag} {mg : Str → Option Value} {base : Heap} {G : Str → Addr} {f : Addr} {fd : FuncData}
theorem sc_is_listed : FnScope ["value"] ["value"] (defScope st_is_listed) := ⟨rfl, rfl, rfl, by decide +kernel, rfl, by decide +kernel, by decide +kernel⟩
theorem ok_is_listed (T : Txt w K mg G) (F : L2.Fun K "is_listed" "is_listed" st_is_listed f fd) (hm : mg "is_listed" = some (.ref f)) (hb : Binds K fd ["value"] [])  : Cal P w K mg base G 1 "is_listed" ["value"] d_is_listed :=
  have sc := sc_is_listed
  Cal.of (N := ["value"]) (b := b_is_listed) F hm hb sc fun cdv A outer s H vs Ex hg hr =>
   (ds_one (ds_ret (de_isiT T.k_list_tuple (pc_tys _) (by decide) (pa_tys2 T.b_list T.b_tuple) (dv 0) rfl T.b_isinstance)))
end
end Lw
set_option Elab.async false
set_option linter.all false
set_option maxRecDepth 100000
set_option maxHeartbeats 4000000
namespace Lw
open PySem L2 DL PySem.Spec PyProof.Rows
section
variable {P : Program} {w : World} {K : PySem.W.Frag} {mg : Str → Option Value} {base : Heap} {G : Str → Addr} {f : Addr} {fd : FuncData}
theorem sc_is_name : FnScope ["value"] ["value"] (defScope st_is_name) := ⟨rfl, rfl, rfl, by decide +kernel, rfl, by decide +kernel, by decide +kernel⟩
theorem ok_is_name (T : Txt w K mg G) (F : L2.Fun K "is_name" "is_name" st_is_name f fd) (hm : mg "is_name" = some (.ref f)) (hb : Binds K fd ["value"] []) (C_is_word : Cal P w K mg base G 1 "is_word" ["value"] d_is_word) : Cal P w K mg base G 2 "is_name" ["value"] d_is_name :=
  have sc := sc_is_name
  Cal.of (N := ["value"]) (b := b_is_name) F hm hb sc fun cdv A outer s H vs Ex hg hr =>
   (ds_one (ds_ret (de_and (de_cal C_is_word hg hr (by decide) (takes_of rfl rfl rfl rfl) (ls_cons (de_fz (dv 0)) ls_nil)) (de_one (de_notin (hu65 hr) (dv 0) (de_kt rfl T.g_NO_NAMES))))))
end
end Lw
set_option Elab.async false
set_option linter.all false
set_option maxRecDepth 100000
set_option maxHeartbeats 4000000
namespace Lw
open PySem L2 DL PySem.Spec PyProof.Rows
section
variable {P : Program} {w : World} {K : PySem.W.Frag} {mg : Str → Option Value} {base : Heap} {G : Str → Addr} {f : Addr} {fd : FuncData}
theorem sc_is_sign : FnScope ["value"] ["value"] (defScope st_is_sign) := ⟨rfl, rfl, rfl, by decide +kernel, rfl, by decide +kernel, by decide +kernel⟩
theorem ok_is_sign (T : Txt w K mg G) (F : L2.Fun K "is_sign" "is_sign" st_is_sign f fd) (hm : mg "is_sign" = some (.ref f)) (hb : Binds K fd ["value"] [])  : Cal P w K mg base G 1 "is_sign" ["value"] d_is_sign :=
  have sc := sc_is_sign
  Cal.of (N := ["value"]) (b := b_is_sign) F hm hb sc fun cdv A outer s H vs Ex hg hr =>
   (ds_one (ds_ret (de_and (de_isi T.k_str (.ty _) (pe_bltn rfl T.b_str (by decide +kernel) rfl) (dv 0) rfl T.b_isinstance) (de_one (de_inK T.km_TURNED.kd (dv 0))))))
end
end Lw
set_option Elab.async false
set_option linter.all false
set_option maxRecDepth 100000
set_option maxHeartbeats 4000000
namespace Lw
open PySem L2 DL PySem.Spec PyProof.Rows
section
variable {P : Program} {w : World} {K : PySem.W.Frag} {mg : Str → Option Value} {base : Heap} {G : Str → Addr} {f : Addr} {fd : FuncData}
theorem sc_is_tuple_of : FnScope ["value", "many"] ["value", "many"] (defScope st_is_tuple_of) := ⟨rfl, rfl, rfl, by decide +kernel, rfl, by decide +kernel, by decide +kernel⟩
theorem ok_is_tuple_of (T : Txt w K mg G) (F : L2.Fun K "is_tuple_of" "is_tuple_of" st_is_tuple_of f fd) (hm : mg "is_tuple_of" = some (.ref f)) (hb : Binds K fd ["value", "many"] [])  : Cal P w K mg base G 1 "is_tuple_of" ["value", "many"] d_is_tuple_of :=
  have sc := sc_is_tuple_of
  Cal.of (N := ["value", "many"]) (b := b_is_tuple_of) F hm hb sc fun cdv A outer s H vs Ex hg hr =>
   (ds_one (ds_ret (de_and (de_isi T.k_tuple (.ty _) (pe_bltn rfl T.b_tuple (by decide +kernel) rfl) (dv 0) rfl T.b_isinstance) (de_one (de_eq hr.units (de_callB cp_len cd_len rfl T.b_len (by decide +kernel) (ls_cons (dv 0) ls_nil)) (dv 1))))))
end
end Lw
set_option Elab.async false
set_option linter.all false
set_option maxRecDepth 100000
set_option maxHeartbeats 4000000
namespace Lw
open PySem L2 DL PySem.Spec PyProof.Rows
section
variable {P : Program} {w : World} {K : PySem.W.Frag} {mg : Str → Option Value} {base : Heap} {G : Str → Addr} {f : Addr} {fd : FuncData}
theorem sc_is_whole : FnScope ["value"] ["value"] (defScope st_is_whole) := ⟨rfl, rfl, rfl, by decide +kernel, rfl, by decide +kernel, by decide +kernel⟩
theorem ok_is_whole (T : Txt w K mg G) (F : L2.Fun K "is_whole" "is_whole" st_is_whole f fd) (hm : mg "is_whole" = some (.ref f)) (hb : Binds K fd ["value"] [])  : Cal P w K mg base G 1 "is_whole" ["value"] d_is_whole :=
  have sc := sc_is_whole
  Cal.of (N := ["value"]) (b := b_is_whole) F hm hb sc fun cdv A outer s H vs Ex hg hr =>
   (ds_one (ds_ret (de_and (de_isi T.k_int (.ty _) (pe_bltn rfl T.b_int (by decide +kernel) rfl) (dv 0) rfl T.b_isinstance) (de_one (de_not (de_isi T.k_bool (.ty _) (pe_bltn rfl T.b_bool (by decide +kernel) rfl) (dv 0) rfl T.b_isinstance))))))
end
end Lw
set_option Elab.async false
set_option linter.all false
set_option maxRecDepth 100000
set_option maxHeartbeats 4000000
namespace Lw
open PySem L2 DL PySem.Spec PyProof.Rows
section
variable {P : Program} {w : World} {K : PySem.W.Frag} {mg : Str → Option Value} {base : Heap} {G : Str → Addr} {f : Addr} {fd : FuncData}
theorem sc_is_word : FnScope ["value", "sign"] ["value"] (defScope st_is_word) := ⟨rfl, rfl, rfl, by decide +kernel, rfl, by decide +kernel, by decide +kernel⟩
theorem ok_is_word (T : Txt w K mg G) (F : L2.Fun K "is_word" "is_word" st_is_word f fd) (hm : mg "is_word" = some (.ref f)) (hb : Binds K fd ["value"] [])  : Cal P w K mg base G 1 "is_word" ["value"] d_is_word :=
  have sc := sc_is_word
  Cal.of (N := ["value", "sign"]) (b := b_is_word) F hm hb sc fun cdv A outer s H vs Ex hg hr =>
   (ds_one (ds_ret (de_and (de_isi T.k_str (.ty _) (pe_bltn rfl T.b_str (by decide +kernel) rfl) (dv 0) rfl T.b_isinstance) (de_and (de_chain op_le od_le op_le od_le de_int (de_callB cp_len cd_len rfl T.b_len (by decide +kernel) (ls_cons (dv 0) ls_nil)) (de_tC (pe_gl rfl T.g_MOST_LETTERS) fun _ _ => .int _)) (de_one (de_callB cp_all (cr_all rfl) rfl T.b_all (by decide +kernel) (ls_cons (de_lc (own := [(("sign" : Str), 1)]) rfl sc.nd (di_seq (dv 0)) (blkOk_by (by kernel_rfl)) (fun _ _ _ _ _ => (lgw_put (pg_name (i := 1) sc.nd rfl (by first | exact Or.inl rfl | exact Or.inr rfl)) (by decide))) (fun _ _ _ _ _ => dts_nil) (fun _ _ _ _ _ => (dd (de_in (hu65 hr) (dv 1) (de_tC (pe_gl rfl T.g_LETTERS) fun _ _ => .str _))))) ls_nil)))))))
end
end Lw
set_option Elab.async false
set_option linter.all false
set_option maxRecDepth 100000
set_option maxHeartbeats 4000000
namespace Lw
open PySem L2 DL PySem.Spec PyProof.Rows
section
variable {P : Program} {w : World} {K : PySem.W.Frag} {mg : Str → Option Value} {base : Heap} {G : Str → Addr} {f : Addr} {fd : FuncData}
theorem sc_law : FnScope ["script", "held", "k", "box", "forms", "j", "turn", "many", "other", "form", "columns", "told", "due"] ["script"] (defScope st_law) := ⟨rfl, rfl, rfl, by decide +kernel, rfl, by decide +kernel, by decide +kernel⟩
theorem ok_law (T : Txt w K mg G) (F : L2.Fun K "law" "law" st_law f fd) (hm : mg "law" = some (.ref f)) (hb : Binds K fd ["script"] []) (C_Form___init__ : CalI P w K mg base G 4 "Form" ["self", "columns"] d_Form___init__) (C__law_all_right : Cal P w K mg base G 3 "_law_all_right" ["form", "many", "turn", "held"] d__law_all_right) (C__law_box : Cal P w K mg base G 1 "_law_box" ["great"] d__law_box) (C__law_cell : Cal P w K mg base G 1 "_law_cell" ["script", "k"] d__law_cell) (C__law_rows_right : Cal P w K mg base G 6 "_law_rows_right" ["box", "form", "many", "turn"] d__law_rows_right) (C__law_take : Cal P w K mg base G 1 "_law_take" ["box", "many"] d__law_take) (C__law_turns_right : Cal P w K mg base G 5 "_law_turns_right" ["box", "many", "turn"] d__law_turns_right) : Cal P w K mg base G 7 "law" ["script"] d_law :=
  have sc := sc_law
  Cal.of (N := ["script", "held", "k", "box", "forms", "j", "turn", "many", "other", "form", "columns", "told", "due"]) (b := b_law) F hm hb sc fun cdv A outer s H vs Ex hg hr =>
   (ds_cons (ds_set (i := 1) sc.nd rfl (by first | exact Or.inl rfl | exact Or.inr rfl) (de_rf (de_lst la_nil)))
    (ds_cons (ds_for (passes_of rfl) rfl (di_range1 rfl T.b_range (la_cons (dd (de_callB cp_max2 (call_max2 rfl) rfl T.b_max (by decide +kernel) (ls_cons de_int (ls_cons (de_callB cp_min2 (call_min2 rfl) rfl T.b_min (by decide +kernel) (ls_cons de_int (ls_cons (de_callB cp_len cd_len rfl T.b_len (by decide +kernel) (ls_cons (dv 0) ls_nil)) ls_nil))) ls_nil)))) la_nil)) (lg_put (pg_name (i := 2) sc.nd rfl (by first | exact Or.inl rfl | exact Or.inr rfl))) (ds_cons (ds_set (i := 3) sc.nd rfl (by first | exact Or.inl rfl | exact Or.inr rfl) (de_rf (de_cal C__law_box hg hr (by decide) (takes_of rfl rfl rfl rfl) (ls_cons (de_fz (de_cal C__law_cell hg hr (by decide) (takes_of rfl rfl rfl rfl) (ls_cons (de_fz (dv 0)) (ls_cons (de_fz (dv 2)) ls_nil)))) ls_nil))))
    (ds_cons (ds_par3 (i := 6) (j := 7) (l := 8) rfl sc.nd rfl rfl rfl (by decide) (by decide) (by decide) rfl rfl rfl (ls_cons (de_fz (de_cal C__law_take hg hr (by decide) (takes_of rfl rfl rfl rfl) (ls_cons (dv 3) (ls_cons de_int ls_nil)))) (ls_cons (de_fz (de_add rfl de_int (de_cal C__law_take hg hr (by decide) (takes_of rfl rfl rfl rfl) (ls_cons (dv 3) (ls_cons de_int ls_nil))))) (ls_cons (de_fz (de_add rfl de_int (de_cal C__law_take hg hr (by decide) (takes_of rfl rfl rfl rfl) (ls_cons (dv 3) (ls_cons de_int ls_nil))))) ls_nil))) rfl)
    (ds_cons (ds_set (i := 4) sc.nd rfl (by first | exact Or.inl rfl | exact Or.inr rfl) (de_fz (de_lst (la_cons (dd (de_calI C_Form___init__ hg hr (by decide) (takes_of rfl rfl rfl rfl) (ls_cons (de_fz (de_sl (de_lst (la_cons (dd de_str) (la_cons (dd de_str) (la_cons (dd de_str) (la_cons (dd de_str) la_nil))))) do_none (do_some (dv 7)))) ls_nil))) (la_cons (dd (de_calI C_Form___init__ hg hr (by decide) (takes_of rfl rfl rfl rfl) (ls_cons (de_fz (de_sl (de_tup (la_cons (dd de_str) (la_cons (dd de_str) (la_cons (dd de_str) (la_cons (dd de_str) la_nil))))) do_none (do_some (dv 8)))) ls_nil))) la_nil)))))
    (ds_one (ds_for (passes_of rfl) rfl (di_range1 rfl T.b_range (la_cons (dd de_int) la_nil)) (lg_put (pg_name (i := 5) sc.nd rfl (by first | exact Or.inl rfl | exact Or.inr rfl))) (ds_cons (ds_par2 (i := 9) (j := 10) rfl sc.nd rfl rfl (by decide) rfl rfl (ls_cons (de_fz (de_ix (dv 4) (de_mod (dv 5) de_int) (fun _ _ => rfl))) (ls_cons (de_fz (de_ix (de_lst (la_cons (dd (dv 7)) (la_cons (dd (dv 8)) la_nil))) (de_mod (dv 5) de_int) (fun _ _ => rfl))) ls_nil)) rfl)
    (ds_cons (ds_if (dt_not (dt_truth (de_cal C__law_all_right hg hr (by decide) (takes_of rfl rfl rfl rfl) (ls_cons (de_fz (dv 9)) (ls_cons (de_fz (dv 10)) (ls_cons (de_fz (de_mod (de_callTy cp_int call_int1 rfl T.b_int (by decide +kernel) (ls_cons (de_add rfl (dv 6) (dv 5)) ls_nil)) de_int)) (ls_cons (dv 1) ls_nil))))))) (ds_one (ds_ret de_bl)) ds_nil)
    (ds_cons (ds_if (dt_not (dt_truth (de_cal C__law_rows_right hg hr (by decide) (takes_of rfl rfl rfl rfl) (ls_cons (dv 3) (ls_cons (de_fz (dv 9)) (ls_cons (de_fz (dv 10)) (ls_cons (de_fz (de_mod (de_callTy cp_int call_int1 rfl T.b_int (by decide +kernel) (ls_cons (de_add rfl (dv 6) (de_fdiv (dv 5) de_int)) ls_nil)) de_int)) ls_nil))))))) (ds_one (ds_ret de_bl)) ds_nil)
    (ds_one (ds_if (L2.PW.pt (dw_and (dt_lt (dv 5) de_int) (dw_and1 (dt_not (dt_truth (de_cal C__law_turns_right hg hr (by decide) (takes_of rfl rfl rfl rfl) (ls_cons (dv 3) (ls_cons (de_fz (dv 10)) (ls_cons (de_fz (dv 6)) ls_nil))))))))) (ds_one (ds_ret de_bl)) ds_nil)))))))))))
    (ds_one (ds_ret (de_eqZ hr.units (de_lcC (own := [(("told" : Str), 11), (("due" : Str), 12)]) rfl sc.nd (di_seqC (dv 1)) (blkOk_by (by kernel_rfl)) (fun _ _ _ _ _ => (lgw_un rfl (lgsw_cons (lgw_put (pg_name (i := 11) sc.nd rfl (by first | exact Or.inl rfl | exact Or.inr rfl)) (by decide)) (lgsw_cons (lgw_put (pg_name (i := 12) sc.nd rfl (by first | exact Or.inl rfl | exact Or.inr rfl)) (by decide)) lgsw_nil)))) (fun _ _ _ _ _ => (dts_one (dt_ne hr.units (de_callB cp_repr (cd_repr hg hr.units) rfl T.b_repr (by decide +kernel) (ls_cons (dv 11) ls_nil)) (dv 12)))) (fun _ _ _ _ _ => (dd de_int))) (de_lst la_nil))))))
end
end Lw
set_option Elab.async false
set_option linter.all false
set_option maxRecDepth 100000
set_option maxHeartbeats 4000000
namespace Lw
open PySem L2 DL PySem.Spec PyProof.Rows
section
variable {P : Program} {w : World} {K : PySem.W.Frag} {mg : Str → Option Value} {base : Heap} {G : Str → Addr} {f : Addr} {fd : FuncData}
theorem sc_sign_of : FnScope ["later", "earlier"] ["later", "earlier"] (defScope st_sign_of) := ⟨rfl, rfl, rfl, by decide +kernel, rfl, by decide +kernel, by decide +kernel⟩
theorem ok_sign_of (T : Txt w K mg G) (F : L2.Fun K "sign_of" "sign_of" st_sign_of f fd) (hm : mg "sign_of" = some (.ref f)) (hb : Binds K fd ["later", "earlier"] [])  : Cal P w K mg base G 1 "sign_of" ["later", "earlier"] d_sign_of :=
  have sc := sc_sign_of
  Cal.of (N := ["later", "earlier"]) (b := b_sign_of) F hm hb sc fun cdv A outer s H vs Ex hg hr =>
   (ds_cons (ds_if (dt_eq hr.units (dv 0) (dv 1)) (ds_one (ds_ret de_str)) ds_nil)
    (ds_one (ds_ret (de_if (dt_lt (dv 0) (dv 1)) de_str de_str))))
end
end Lw
set_option Elab.async false
set_option linter.all false
set_option maxRecDepth 100000
set_option maxHeartbeats 4000000
namespace Lw
open PySem L2 DL PySem.Spec PyProof.Rows
section
variable {P : Program} {w : World} {K : PySem.W.Frag} {mg : Str → Option Value} {base : Heap} {G : Str → Addr} {f : Addr} {fd : FuncData}
theorem sc_turned : FnScope ["cell", "sign", "item"] ["cell"] (defScope st_turned) := ⟨rfl, rfl, rfl, by decide +kernel, rfl, by decide +kernel, by decide +kernel⟩
theorem ok_turned (T : Txt w K mg G) (F : L2.Fun K "turned" "turned" st_turned f fd) (hm : mg "turned" = some (.ref f)) (hb : Binds K fd ["cell"] []) (C_is_sign : Cal P w K mg base G 1 "is_sign" ["value"] d_is_sign) (X_InvalidCell : CalX P w K mg base G "InvalidCell" "given") : Cal P w K mg base G 3 "turned" ["cell"] d_turned :=
  have sc := sc_turned
  Cal.of (N := ["cell", "sign", "item"]) (b := b_turned) F hm hb sc fun cdv A outer s H vs Ex hg hr =>
   (ds_cons (ds_if (L2.PW.pt (dw_or (dt_not (dt_truth (de_isi T.k_tuple (.ty _) (pe_bltn rfl T.b_tuple (by decide +kernel) rfl) (dv 0) rfl T.b_isinstance))) (dw_or (dt_not (dt_chain op_le od_le op_le od_le de_int (de_callB cp_len cd_len rfl T.b_len (by decide +kernel) (ls_cons (dv 0) ls_nil)) (de_tC (pe_gl rfl T.g_MOST_COLUMNS) fun _ _ => .int _))) (dw_or1 (dt_not (dt_truth (de_callB cp_all (cr_all rfl) rfl T.b_all (by decide +kernel) (ls_cons (de_lc (own := [(("item" : Str), 2)]) rfl sc.nd (di_seq (dv 0)) (blkOk_by (by kernel_rfl)) (fun _ _ _ _ _ => (lgw_put (pg_name (i := 2) sc.nd rfl (by first | exact Or.inl rfl | exact Or.inr rfl)) (by decide))) (fun _ _ _ _ _ => dts_nil) (fun _ _ _ _ _ => (dd (de_cal C_is_sign hg hr (by decide) tk0 (ls_cons (de_fz (dv 2)) ls_nil))))) ls_nil)))))))) (ds_one (ds_raise X_InvalidCell rfl (takes_of rfl rfl rfl rfl) hr (by decide) (dd (dv 0)))) ds_nil)
    (ds_one (ds_ret (de_callTy cp_tuple call_tuple_of rfl T.b_tuple (by decide +kernel) (ls_cons (de_lc (own := [(("sign" : Str), 1)]) rfl sc.nd (di_seq (dv 0)) (blkOk_by (by kernel_rfl)) (fun _ _ _ _ _ => (lgw_put (pg_name (i := 1) sc.nd rfl (by first | exact Or.inl rfl | exact Or.inr rfl)) (by decide))) (fun _ _ _ _ _ => dts_nil) (fun _ _ _ _ _ => (dd (de_itemK T.km_TURNED (dv 1) (fun _ _ => rfl))))) ls_nil)))))
end
end Lw
set_option Elab.async false
set_option linter.all false
set_option maxRecDepth 100000
set_option maxHeartbeats 4000000
/-! DP1: the plain layer: what a meaning comes to, without program and heap. simp walks: the rules are for the whole first, and what comes later is not looked into. -/
namespace DP
open PySem L2 DL
/-- so that simp leaves alone what a belongs to -/
inductive Tag {α : Sort u} (a : α) : Type where | mk
/-- it comes to a value, and Q holds then -/
def Ok {α : Type} (r : R α) (Q : α → List Sl → List Cl → Prop) (t : Tag Q := .mk) : Prop := match r with
  | .ok x ρ s => Q x ρ s
  | _ => False
def optR {α β : Type} (o : Option α) (k : α → R β) (t : Tag k := .mk) : R β := match o with
  | some a => k a
  | none => .no
def condR {α : Type} (b : Bool) (x y : R α) (t : Tag x := .mk) (u : Tag y := .mk) : R α := if b = true then x else y
def grdR {α : Type} (c : Prop) [Decidable c] (x : R α) : R α := if c then x else .no
section
variable {α β : Type} {x : α} {ρ ρ' : List Sl} {s s' : List Cl} {Q Q' : α → List Sl → List Cl → Prop} {r r' : R α}
@[simp ↓] theorem ok_ok : Ok (.ok x ρ s) Q ↔ Q x ρ s := Iff.rfl
@[simp ↓] theorem ok_no : Ok (.no : R α) Q ↔ False := Iff.rfl
@[simp ↓] theorem ok_ex {c ns vs} : Ok (.ex c ns vs ρ s : R α) Q ↔ False := Iff.rfl
/-- an equation that simp must not take as a mere unfolding (the kernel would unfold the wrong side) -/
theorem hide {α : Sort u} {a b : α} (h : a = b) : a = b := by cases h; rfl
@[simp] theorem opt_some {a : β} {k : β → R α} : optR (some a) k = k a := hide rfl
@[simp] theorem opt_none {k : β → R α} : optR none k = .no := rfl
@[simp] theorem cond_t {x y : R α} : condR true x y = x := hide rfl
@[simp] theorem cond_f {x y : R α} : condR false x y = y := hide rfl
@[simp ↓] theorem ok_grd {c : Prop} [Decidable c] : Ok (grdR c r) Q ↔ c ∧ Ok r Q := by
  unfold grdR
  split
  · rename_i h; exact ⟨fun q => ⟨h, q⟩, fun q => q.2⟩
  · rename_i h; exact ⟨fun q => q.elim, fun q => (h q.1).elim⟩
theorem Ok.mono (h : Ok r Q) (k : ∀ x ρ s, Q x ρ s → Q' x ρ s) : Ok r Q' := by
  cases r with
  | ok x ρ s => exact k x ρ s h
  | ex c ns vs ρ s => exact h
  | no => exact h
theorem ok_fun (h : ∀ x ρ s, Q x ρ s ↔ Q' x ρ s) : Ok r Q ↔ Ok r Q' := ⟨fun q => q.mono fun x ρ s => (h x ρ s).mp, fun q => q.mono fun x ρ s => (h x ρ s).mpr⟩
theorem ok_iff : Ok r Q ↔ ∃ x ρ s, r = .ok x ρ s ∧ Q x ρ s := by
  cases r with
  | ok x ρ s => exact ⟨fun h => ⟨x, ρ, s, rfl, h⟩, fun ⟨_, _, _, e, h⟩ => by cases e; exact h⟩
  | ex c ns vs ρ s => exact ⟨fun h => h.elim, fun ⟨_, _, _, e, h⟩ => by cases e⟩
  | no => exact ⟨fun h => h.elim, fun ⟨_, _, _, e, h⟩ => by cases e⟩
@[simp ↓] theorem ok_bind {f : M β} {k : β → M α} : Ok (M.bind f k ρ s) Q ↔ Ok (f ρ s) fun x ρ s => Ok (k x ρ s) Q := by
  unfold M.bind
  cases f ρ s <;> exact Iff.rfl
@[simp ↓] theorem ok_pure : Ok (M.pure x ρ s) Q ↔ Q x ρ s := Iff.rfl
@[simp ↓] theorem ok_mno : Ok ((M.no : M α) ρ s) Q ↔ False := Iff.rfl
theorem m_cond {b : Bool} {f g : M α} : (if b = true then f else g) ρ s = condR b (f ρ s) (g ρ s) := by cases b <;> rfl
theorem ok_opt {o : Option β} {k : β → R α} : Ok (optR o k) Q ↔ ∃ a, o = some a ∧ Ok (k a) Q := by
  cases o with
  | none => exact ⟨fun h => h.elim, fun ⟨a, h, _⟩ => by cases h⟩
  | some a => exact ⟨fun h => ⟨a, rfl, h⟩, fun ⟨_, h, q⟩ => by cases h; exact q⟩
end

section
variable {ρ ρ' : List Sl} {s s' : List Cl} {Q : E → List Sl → List Cl → Prop} {QB : Bool → List Sl → List Cl → Prop} {QF : Fl → List Sl → List Cl → Prop} {QU : Unit → List Sl → List Cl → Prop} {QD : D → List Sl → List Cl → Prop} {QL : List D → List Sl → List Cl → Prop} {QE : List E → List Sl → List Cl → Prop}
variable {d : D} {i : Nat} {f g h : M E} {t u : M Bool} {a b : M Fl} {fl : M (List D)} {fe : M (List E)} {fd : M D}
/-! names, constants, shapes -/
@[simp ↓] theorem ok_eC : Ok (eC d ρ s) Q ↔ Q (.v d) ρ s := Iff.rfl
def rdSl (i : Nat) (ρ : List Sl) (s : List Cl) : Sl → R E
  | .val d => .ok (.v d) ρ s
  | .own _ => .ok (.l i) ρ s
  | .io _ => .ok (.l i) ρ s
  | .no => .no
@[simp] theorem rd_val : rdSl i ρ s (.val d) = .ok (.v d) ρ s := rfl
@[simp] theorem rd_own {c} : rdSl i ρ s (.own c) = .ok (.l i) ρ s := rfl
@[simp] theorem rd_io {c} : rdSl i ρ s (.io c) = .ok (.l i) ρ s := rfl
@[simp] theorem rd_no : rdSl i ρ s .no = .no := rfl
@[simp ↓] theorem r_eVar : eVar i ρ s = optR ρ[i]? (rdSl i ρ s) := by
  unfold eVar
  cases h : ρ[i]? with
  | none => rfl
  | some x => cases x <;> rfl
@[simp ↓] theorem ok_eBin {k : E → E → M E} : Ok (eBin k f g ρ s) Q ↔ Ok (f ρ s) fun x ρ s => Ok (g ρ s) fun y ρ s => Ok (k x y ρ s) Q := by
  unfold eBin
  repeat first | exact Iff.rfl | (rw [ok_bind]; first | done | refine ok_fun fun _ _ _ => ?_) | (rw [m_cond]; first | done | exact Iff.rfl)
@[simp ↓] theorem ok_eFz : Ok (eFz f ρ s) Q ↔ Ok (f ρ s) fun e ρ s => Ok (frz e ρ s) fun d ρ s => Q (.v d) ρ s := by
  unfold eFz
  rw [ok_bind, ok_bind]
  exact ok_fun fun _ _ _ => Iff.rfl
@[simp ↓] theorem ok_frz_v : Ok (frz (.v d) ρ s) QD ↔ QD d ρ s := Iff.rfl
@[simp ↓] theorem ok_frz_f {c : Cl} : Ok (frz (.f c) ρ s) QD ↔ QD c.val ρ s := Iff.rfl
def fzSl (i : Nat) (ρ : List Sl) (s : List Cl) : Sl → R D
  | .own c => .ok c.val (ρ.set i (.val c.val)) s
  | _ => .no
@[simp] theorem fzSl_own {c : Cl} : fzSl i ρ s (.own c) = .ok c.val (ρ.set i (.val c.val)) s := rfl
@[simp ↓] theorem r_frz_l : frz (.l i) ρ s = optR ρ[i]? (fzSl i ρ s) := by
  show (match ρ[i]? with | some (.own c) => R.ok c.val (ρ.set i (.val c.val)) s | _ => .no) = _
  cases h : ρ[i]? with
  | none => rfl
  | some x => cases x <;> rfl
@[simp] theorem val_lst {xs : List D} : (Cl.lst xs).val = .lst xs := rfl
@[simp] theorem val_dk {ks vs} : (Cl.dk ks vs).val = .dk ks vs := rfl
@[simp] theorem val_dt {ks vs} : (Cl.dt ks vs).val = .dt ks vs := rfl
@[simp] theorem val_ins {c ns vs} : (Cl.ins c ns vs).val = .ins c ns vs := rfl
@[simp ↓] theorem ok_eRf : Ok (eRf f ρ s) Q ↔ Ok (f ρ s) fun e ρ s => Ok (refE e ρ s) fun d ρ s => Q (.v d) ρ s := by
  unfold eRf
  rw [ok_bind, ok_bind]
  exact ok_fun fun _ _ _ => Iff.rfl
@[simp ↓] theorem ok_ref_v : Ok (refE (.v d) ρ s) QD ↔ QD d ρ s := Iff.rfl
@[simp ↓] theorem ok_ref_f {c : Cl} : Ok (refE (.f c) ρ s) QD ↔ QD (.ref s.length) ρ (s ++ [c]) := Iff.rfl
@[simp ↓] theorem ok_eIf : Ok (eIf t f g ρ s) Q ↔ Ok (t ρ s) fun c ρ s => Ok (condR c (f ρ s) (g ρ s)) Q := by
  unfold eIf
  repeat first | exact Iff.rfl | (rw [ok_bind]; first | done | refine ok_fun fun _ _ _ => ?_) | (rw [m_cond]; first | done | exact Iff.rfl)
@[simp ↓] theorem ok_aNil : Ok (aNil ρ s) QL ↔ QL [] ρ s := Iff.rfl
@[simp ↓] theorem ok_aCons : Ok (aCons fd fl ρ s) QL ↔ Ok (fd ρ s) fun d ρ s => Ok (fl ρ s) fun ds ρ s => QL (d :: ds) ρ s := by
  unfold aCons
  repeat first | exact Iff.rfl | (rw [ok_bind]; first | done | refine ok_fun fun _ _ _ => ?_) | (rw [m_cond]; first | done | exact Iff.rfl)
@[simp ↓] theorem ok_esNil : Ok (esNil ρ s) QE ↔ QE [] ρ s := Iff.rfl
@[simp ↓] theorem ok_esCons : Ok (esCons f fe ρ s) QE ↔ Ok (f ρ s) fun d ρ s => Ok (fe ρ s) fun ds ρ s => QE (d :: ds) ρ s := by
  unfold esCons
  repeat first | exact Iff.rfl | (rw [ok_bind]; first | done | refine ok_fun fun _ _ _ => ?_) | (rw [m_cond]; first | done | exact Iff.rfl)
@[simp ↓] theorem ok_eTup : Ok (eTup fl ρ s) Q ↔ Ok (fl ρ s) fun ds ρ s => ds.length ≤ sizeLine ∧ Q (.v (.tup ds)) ρ s := by
  unfold eTup
  rw [ok_bind]
  refine ok_fun fun ds ρ s => ?_
  exact (ok_grd (r := R.ok (E.v (.tup ds)) ρ s))
@[simp ↓] theorem ok_eLst : Ok (eLst fl ρ s) Q ↔ Ok (fl ρ s) fun ds ρ s => ds.length ≤ sizeLine ∧ Q (.f (.lst ds)) ρ s := by
  unfold eLst
  rw [ok_bind]
  refine ok_fun fun ds ρ s => ?_
  exact (ok_grd (r := R.ok (E.f (.lst ds)) ρ s))
/-! tests -/
@[simp ↓] theorem ok_tE : Ok (tE f ρ s) QB ↔ Ok (f ρ s) fun e ρ s => Ok (truE e ρ s) QB := by
  unfold tE
  repeat first | exact Iff.rfl | (rw [ok_bind]; first | done | refine ok_fun fun _ _ _ => ?_) | (rw [m_cond]; first | done | exact Iff.rfl)
@[simp ↓] theorem ok_tB : Ok (DL.tB f ρ s) QB ↔ Ok (f ρ s) fun e ρ s => Ok (blE e ρ s) QB := by
  unfold DL.tB
  repeat first | exact Iff.rfl | (rw [ok_bind]; first | done | refine ok_fun fun _ _ _ => ?_) | (rw [m_cond]; first | done | exact Iff.rfl)
@[simp ↓] theorem ok_blE {b : Bool} : Ok (blE (.v (.bl b)) ρ s) QB ↔ QB b ρ s := Iff.rfl
@[simp ↓] theorem ok_tAnd : Ok (DL.tAnd t u ρ s) QB ↔ Ok (t ρ s) fun c ρ s => Ok (condR c (u ρ s) (.ok false ρ s)) QB := by
  unfold DL.tAnd
  repeat first | exact Iff.rfl | (rw [ok_bind]; first | done | refine ok_fun fun _ _ _ => ?_) | (rw [m_cond]; first | done | exact Iff.rfl)
@[simp ↓] theorem ok_tOr : Ok (DL.tOr t u ρ s) QB ↔ Ok (t ρ s) fun c ρ s => Ok (condR c (.ok true ρ s) (u ρ s)) QB := by
  unfold DL.tOr
  repeat first | exact Iff.rfl | (rw [ok_bind]; first | done | refine ok_fun fun _ _ _ => ?_) | (rw [m_cond]; first | done | exact Iff.rfl)
@[simp ↓] theorem ok_tNot : Ok (DL.tNot t ρ s) QB ↔ Ok (t ρ s) fun c ρ s => QB (!c) ρ s := by
  unfold DL.tNot
  repeat first | exact Iff.rfl | (rw [ok_bind]; first | done | refine ok_fun fun _ _ _ => ?_) | (rw [m_cond]; first | done | exact Iff.rfl)
@[simp ↓] theorem tru_bl {b : Bool} : Ok (truE (.v (.bl b)) ρ s) QB ↔ QB b ρ s := Iff.rfl
@[simp ↓] theorem tru_int {n : Int} : Ok (truE (.v (.int n)) ρ s) QB ↔ QB (n != 0) ρ s := Iff.rfl
@[simp ↓] theorem tru_non : Ok (truE (.v .non) ρ s) QB ↔ QB false ρ s := Iff.rfl
@[simp ↓] theorem ok_eAndV : Ok (eAndV f g ρ s) Q ↔ Ok (f ρ s) fun e ρ s => Ok (truE e ρ s) fun b ρ s => Ok (condR b (g ρ s) (keepE e ρ s)) Q := by
  unfold eAndV
  repeat first | exact Iff.rfl | (rw [ok_bind]; first | done | refine ok_fun fun _ _ _ => ?_) | (rw [m_cond]; first | done | exact Iff.rfl)
@[simp ↓] theorem ok_eOrV : Ok (eOrV f g ρ s) Q ↔ Ok (f ρ s) fun e ρ s => Ok (truE e ρ s) fun b ρ s => Ok (condR b (keepE e ρ s) (g ρ s)) Q := by
  unfold eOrV
  repeat first | exact Iff.rfl | (rw [ok_bind]; first | done | refine ok_fun fun _ _ _ => ?_) | (rw [m_cond]; first | done | exact Iff.rfl)
@[simp ↓] theorem ok_eNotV : Ok (eNotV f ρ s) Q ↔ Ok (f ρ s) fun e ρ s => Ok (truE e ρ s) fun b ρ s => Q (.v (.bl (!b))) ρ s := by
  unfold eNotV
  repeat first | exact Iff.rfl | (rw [ok_bind]; first | done | refine ok_fun fun _ _ _ => ?_) | (rw [m_cond]; first | done | exact Iff.rfl)
@[simp ↓] theorem ok_keep_v : Ok (keepE (.v d) ρ s) Q ↔ Q (.v d) ρ s := Iff.rfl
@[simp ↓] theorem ok_keep_l : Ok (keepE (.l i) ρ s) Q ↔ Q (.l i) ρ s := Iff.rfl
/-! statements -/
@[simp ↓] theorem ok_sNx : Ok (sNx ρ s) QF ↔ QF .nx ρ s := Iff.rfl
def seqR (b : M Fl) (fl : Fl) (ρ : List Sl) (s : List Cl) : R Fl := match fl with
  | .nx => b ρ s
  | fl => .ok fl ρ s
@[simp ↓] theorem seq_nx : seqR b .nx ρ s = b ρ s := hide rfl
@[simp ↓] theorem seq_rt {e : E} : seqR b (.rt e) ρ s = .ok (.rt e) ρ s := hide rfl
@[simp ↓] theorem seq_bk : seqR b .bk ρ s = .ok .bk ρ s := hide rfl
@[simp ↓] theorem seq_ct : seqR b .ct ρ s = .ok .ct ρ s := hide rfl
@[simp ↓] theorem ok_sSeq : Ok (sSeq a b ρ s) QF ↔ Ok (a ρ s) fun fl ρ s => Ok (seqR b fl ρ s) QF := by
  unfold sSeq
  cases h : a ρ s with
  | ok x ρ s => cases x <;> exact Iff.rfl
  | ex c ns vs ρ s => exact Iff.rfl
  | no => exact Iff.rfl
@[simp ↓] theorem ok_sDrop : Ok (sDrop f ρ s) QF ↔ Ok (f ρ s) fun _ ρ s => QF .nx ρ s := by
  unfold sDrop
  repeat first | exact Iff.rfl | (rw [ok_bind]; first | done | refine ok_fun fun _ _ _ => ?_) | (rw [m_cond]; first | done | exact Iff.rfl)
@[simp ↓] theorem ok_sRet : Ok (sRet f ρ s) QF ↔ Ok (f ρ s) fun e ρ s => QF (.rt e) ρ s := by
  unfold sRet
  repeat first | exact Iff.rfl | (rw [ok_bind]; first | done | refine ok_fun fun _ _ _ => ?_) | (rw [m_cond]; first | done | exact Iff.rfl)
@[simp ↓] theorem ok_sRetN : Ok (sRetN ρ s) QF ↔ QF (.rt (.v .non)) ρ s := Iff.rfl
@[simp ↓] theorem ok_sIf : Ok (sIf t a b ρ s) QF ↔ Ok (t ρ s) fun c ρ s => Ok (condR c (a ρ s) (b ρ s)) QF := by
  unfold sIf
  repeat first | exact Iff.rfl | (rw [ok_bind]; first | done | refine ok_fun fun _ _ _ => ?_) | (rw [m_cond]; first | done | exact Iff.rfl)
@[simp ↓] theorem ok_sAsg {k : E → M Unit} : Ok (sAsg f k ρ s) QF ↔ Ok (f ρ s) fun e ρ s => Ok (k e ρ s) fun _ ρ s => QF .nx ρ s := by
  unfold sAsg
  repeat first | exact Iff.rfl | (rw [ok_bind]; first | done | refine ok_fun fun _ _ _ => ?_) | (rw [m_cond]; first | done | exact Iff.rfl)
def putSl (i : Nat) (y : Sl) (ρ : List Sl) (s : List Cl) : Sl → R Unit
  | .io _ => .no
  | _ => .ok () (ρ.set i y) s
@[simp] theorem putSl_val {y : Sl} : putSl i y ρ s (.val d) = .ok () (ρ.set i y) s := rfl
@[simp] theorem putSl_own {y : Sl} {c} : putSl i y ρ s (.own c) = .ok () (ρ.set i y) s := rfl
@[simp] theorem putSl_no {y : Sl} : putSl i y ρ s .no = .ok () (ρ.set i y) s := rfl
@[simp ↓] theorem r_put_v : put i (.v d) ρ s = optR ρ[i]? (putSl i (.val d) ρ s) := by
  unfold put
  cases h : ρ[i]? with
  | none => rfl
  | some x => cases x <;> rfl
@[simp ↓] theorem r_put_f {c : Cl} : put i (.f c) ρ s = optR ρ[i]? (putSl i (.own c) ρ s) := by
  unfold put
  cases h : ρ[i]? with
  | none => rfl
  | some x => cases x <;> rfl
@[simp ↓] theorem ok_unNil : Ok (unNil [] ρ s) QU ↔ QU () ρ s := Iff.rfl
@[simp ↓] theorem ok_unCons {k : E → M Unit} {ks : List D → M Unit} {ds : List D} : Ok (unCons k ks (d :: ds) ρ s) QU ↔ Ok (k (.v d) ρ s) fun _ ρ s => Ok (ks ds ρ s) QU := by
  unfold unCons
  repeat first | exact Iff.rfl | (rw [ok_bind]; first | done | refine ok_fun fun _ _ _ => ?_) | (rw [m_cond]; first | done | exact Iff.rfl)
@[simp ↓] theorem ok_unTup {n : Nat} {ks : List D → M Unit} {ds : List D} : Ok (unTup n ks (.v (.tup ds)) ρ s) QU ↔ ds.length = n ∧ Ok (ks ds ρ s) QU :=
  ok_grd (r := ks ds ρ s)
/-! loops -/
theorem ok_forD {k : E → M Unit} (I : List D → List D → List Sl → List Cl → Prop) (step : ∀ d rest done ρ s, I done (d :: rest) ρ s → Ok (k (.v d) ρ s) fun _ ρ s => Ok (a ρ s) fun fl ρ s => match fl with
    | .nx => I (done ++ [d]) rest ρ s
    | .ct => I (done ++ [d]) rest ρ s
    | .bk => QF .nx ρ s
    | .rt e => QF (.rt e) ρ s) (done : ∀ xs ρ s, I xs [] ρ s → QF .nx ρ s) : ∀ (xs pre : List D) (ρ : List Sl) (s : List Cl), I pre xs ρ s → Ok (forD k a xs ρ s) QF
  | [], pre, ρ, s, h => done pre ρ s h
  | d :: xs, pre, ρ, s, h => by
    unfold forD
    rw [ok_bind]
    refine (step d xs pre ρ s h).mono fun _ ρ s q => ?_
    unfold sLoop
    cases hb : a ρ s with
    | ok fl ρ1 s1 =>
      rw [hb] at q
      cases fl with
      | nx => exact ok_forD I step done xs (pre ++ [d]) ρ1 s1 q
      | ct => exact ok_forD I step done xs (pre ++ [d]) ρ1 s1 q
      | bk => exact q
      | rt e => exact q
    | ex c ns vs ρ1 s1 => rw [hb] at q; exact q.elim
    | no => rw [hb] at q; exact q.elim
@[simp ↓] theorem ok_sFor {k : E → M Unit} : Ok (sFor fl k a ρ s) QF ↔ Ok (fl ρ s) fun xs ρ s => Ok (forD k a xs ρ s) QF := by
  unfold sFor
  repeat first | exact Iff.rfl | (rw [ok_bind]; first | done | refine ok_fun fun _ _ _ => ?_) | (rw [m_cond]; first | done | exact Iff.rfl)
theorem ok_forE {k : E → M Unit} (xs : List D) (I : List D → List D → List Sl → List Cl → Prop) (h0 : I [] xs ρ s) (step : ∀ d rest done ρ s, xs = done ++ d :: rest → I done (d :: rest) ρ s → Ok (k (.v d) ρ s) fun _ ρ s => Ok (a ρ s) fun fl ρ s => match fl with
    | .nx => I (done ++ [d]) rest ρ s
    | .ct => I (done ++ [d]) rest ρ s
    | .bk => QF .nx ρ s
    | .rt e => QF (.rt e) ρ s) (done : ∀ ρ s, I xs [] ρ s → QF .nx ρ s) : Ok (forD k a xs ρ s) QF :=
  ok_forD (fun pre rest ρ s => xs = pre ++ rest ∧ I pre rest ρ s) (fun d rest pre ρ s ⟨e, h⟩ => (step d rest pre ρ s e h).mono fun _ ρ s q => q.mono fun fl ρ s q => by
    have e' : xs = (pre ++ [d]) ++ rest := by rw [List.append_assoc]; exact e
    cases fl with
    | nx => exact ⟨e', q⟩
    | ct => exact ⟨e', q⟩
    | bk => exact q
    | rt e => exact q) (fun pre ρ s ⟨e, h⟩ => by
      rw [List.append_nil] at e
      subst e
      exact done ρ s h) xs [] ρ s ⟨rfl, h0⟩
/-- a comprehension: I made rest -/
theorem ok_lcD {vs : List Nat} {k : E → M Unit} {fd : M D} (I : List D → List D → List Sl → List Cl → Prop) (step : ∀ d rest acc ρ s, I acc (d :: rest) ρ s → Ok (k (.v d) ρ s) fun _ ρ s => Ok (t ρ s) fun c ρ s => if c = true then Ok (fd ρ s) fun y ρ s => acc.length < sizeLine ∧ I (acc ++ [y]) rest (clr vs ρ) s else I acc rest (clr vs ρ) s)
    (done : ∀ acc ρ s, I acc [] ρ s → QL acc ρ s) : ∀ (xs acc : List D) (ρ : List Sl) (s : List Cl), I acc xs ρ s → Ok (lcD vs k t fd xs acc ρ s) QL
  | [], acc, ρ, s, h => done acc ρ s h
  | d :: xs, acc, ρ, s, h => by
    unfold lcD
    rw [ok_bind]
    refine (step d xs acc ρ s h).mono fun _ ρ s q => ?_
    rw [ok_bind]
    refine q.mono fun c ρ s q => ?_
    cases c with
    | true =>
      rw [if_pos rfl] at q
      rw [if_pos rfl, ok_bind]
      refine q.mono fun y ρ s q => ?_
      rw [ok_bind]
      show Ok ((if acc.length < sizeLine then lcD vs k t fd xs (acc ++ [y]) else M.no) (clr vs ρ) s) QL
      rw [if_pos q.1]
      exact ok_lcD I step done xs _ _ _ q.2
    | false =>
      rw [if_neg Bool.false_ne_true] at q
      rw [if_neg Bool.false_ne_true, ok_bind]
      exact ok_lcD I step done xs _ _ _ q
@[simp ↓] theorem ok_eLc {vs : List Nat} {k : E → M Unit} : Ok (eLc vs fl k t fd ρ s) Q ↔ Ok (fl ρ s) fun xs ρ s => Ok (lcD vs k t fd xs [] (clr vs ρ) s) fun acc ρ' s' => Q (.f (.lst acc)) (resto ρ vs ρ') s' := by
  unfold eLc
  rw [ok_bind]
  suffices h : ∀ xs ρ s, Ok (lcR vs ρ Cl.lst (M.bind (clrM vs) (fun _ => lcD vs k t fd xs []) ρ s)) Q ↔ Ok (lcD vs k t fd xs [] (clr vs ρ) s) fun acc ρ' s' => Q (.f (.lst acc)) (resto ρ vs ρ') s' by
    exact ok_fun h
  intro xs ρ s
  show Ok (lcR vs ρ Cl.lst (lcD vs k t fd xs [] (clr vs ρ) s)) Q ↔ _
  cases lcD vs k t fd xs [] (clr vs ρ) s <;> exact Iff.rfl
@[simp] theorem clr_nil : clr [] ρ = ρ := rfl
@[simp] theorem clr_cons {v : Nat} {vs : List Nat} : clr (v :: vs) ρ = (clr vs ρ).set v .no := rfl
@[simp] theorem resto_nil : resto ρ [] ρ' = ρ' := rfl
def keepSl : Option Sl → Sl
  | some (.val d) => .val d
  | _ => .no
@[simp] theorem keep_val : keepSl (some (.val d)) = .val d := rfl
@[simp] theorem keep_no : keepSl (some .no) = .no := rfl
@[simp] theorem keep_own {c} : keepSl (some (.own c)) = .no := rfl
@[simp] theorem keep_io {c} : keepSl (some (.io c)) = .no := rfl
@[simp] theorem resto_cons {v : Nat} {vs : List Nat} : resto ρ (v :: vs) ρ' = (resto ρ vs ρ').set v (keepSl ρ[v]?) := rfl
@[simp ↓] theorem ok_yes : Ok (tYesD ρ s) QB ↔ QB true ρ s := Iff.rfl
end
end DP
set_option Elab.async false
set_option linter.all false
set_option maxRecDepth 100000
set_option maxHeartbeats 4000000
/-! DP2: operators, calls. -/
namespace DP
open PySem L2 DL
/-- a def called with values alone -/
@[irreducible] def V1 (f : M E) (ds : List D) (s : List Cl) (Q : E → List Cl → Prop) : Prop := Ok (f (ds.map Sl.val) s) fun e as s' => as = ds.map (fun _ => Sl.no) ∧ (∀ i, e ≠ .l i) ∧ Q e s'
theorem V1.mono {f : M E} {ds : List D} {s : List Cl} {Q Q' : E → List Cl → Prop} (h : V1 f ds s Q) (k : ∀ e s, Q e s → Q' e s) : V1 f ds s Q' := by
  unfold V1 at h ⊢
  exact Ok.mono h fun e as s' ⟨h1, h2, h3⟩ => ⟨h1, h2, k e s' h3⟩
theorem ioF_val : ∀ {ds : List D} {ρ : List Sl}, ds.length ≤ ρ.length → ioF (ds.map Sl.val) ρ = some (ds.map fun _ => Sl.no)
  | [], _, _ => rfl
  | d :: ds, [], h => by simp at h
  | d :: ds, r :: ρ, h => by
    show (ioF (ds.map Sl.val) ρ).map (Sl.no :: ·) = _
    rw [ioF_val (by simpa using h)]
    rfl
/-- what a body must come to -/
def Rt (ρ : List Sl) (s : List Cl) (Q : E → List Cl → Prop) : Fl → Prop
  | .nx => Q (.v .non) s
  | .rt (.v d) => Q (.v d) s
  | .rt (.f c) => Q (.f c) s
  | .rt (.l i) => match ρ[i]? with
    | some (.own c) => Q (.f c) s
    | _ => False
  | _ => False
theorem fn_val {N : Nat} {b : M Fl} {ds : List D} {s : List Cl} {Q : E → List Cl → Prop} (h : Ok (b (ds.map Sl.val ++ List.replicate (N - ds.length) .no) s) fun fl ρ s' => ds.length ≤ ρ.length ∧ Rt ρ s' Q fl) : V1 (fnE N b) ds s Q := by
  unfold V1 fnE
  rw [List.length_map]
  cases hb : b (ds.map Sl.val ++ List.replicate (N - ds.length) .no) s with
  | no => rw [hb] at h; exact h.elim
  | ex c ns vs ρ s' => rw [hb] at h; exact h.elim
  | ok fl ρ s' =>
    rw [hb] at h
    obtain ⟨h1, h2⟩ := h
    have e := ioF_val (ρ := ρ) h1
    cases fl with
    | nx =>
      show Ok (finE _ (.v .non) ρ s') _
      unfold finE
      rw [e]
      exact ⟨rfl, fun i => by simp, h2⟩
    | rt x =>
      show Ok (finE _ x ρ s') _
      unfold finE
      rw [e]
      cases x with
      | v d => exact ⟨rfl, fun i => by simp, h2⟩
      | f c => exact ⟨rfl, fun i => by simp, h2⟩
      | l i =>
        cases hr : ρ[i]? with
        | none => simp [Rt, hr] at h2
        | some y => cases y <;> simp [Rt, hr] at h2 ⊢ <;> exact h2
    | bk => exact h2.elim
    | ct => exact h2.elim
section
variable {ρ ρ' : List Sl} {s s' : List Cl} {Q : E → List Sl → List Cl → Prop}
theorem slE_vals : ∀ (ds : List D), mapO (slE ρ) (ds.map E.v) = some (ds.map Sl.val)
  | [] => rfl
  | d :: ds => by
    simp [mapO, slE, slE_vals ds]
theorem oneL_vals : ∀ (ds : List D), oneL (ds.map E.v) = true
  | [] => rfl
  | d :: ds => oneL_vals ds
theorem backS_vals : ∀ (ds : List D), backS (ds.map E.v) (ds.map fun _ => Sl.no) ρ = some ρ
  | [] => rfl
  | d :: ds => backS_vals ds
theorem ok_gCall {f : M E} (ds : List D) : V1 f ds s (fun e s' => Q e ρ s') → Ok (gCall ds.length f (ds.map E.v) ρ s) Q := fun h => by
  unfold gCall
  rw [if_pos (by simp), ok_bind]
  unfold gCallR
  rw [slE_vals]
  show Ok (if oneL (ds.map E.v) = true then afterC (ds.map E.v) ρ (f (ds.map Sl.val) s) else .no) _
  rw [if_pos (oneL_vals ds)]
  unfold V1 at h
  cases hf : f (ds.map Sl.val) s with
  | no => rw [hf] at h; exact h.elim
  | ex c ns vs ρ s' => rw [hf] at h; exact h.elim
  | ok e as s' =>
    rw [hf] at h
    obtain ⟨rfl, h2, h3⟩ := h
    rw [afterC_ok (backS_vals ds)]
    cases e with
    | l i => exact absurd rfl (h2 i)
    | v d => exact h3
    | f c => exact h3
theorem ok_call0 {f : M E} (h : V1 f [] s fun e s' => Q e ρ s') : Ok (gCall 0 f [] ρ s) Q := ok_gCall [] h
theorem ok_call1 {f : M E} {a : D} (h : V1 f [a] s fun e s' => Q e ρ s') : Ok (gCall 1 f [.v a] ρ s) Q := ok_gCall [a] h
theorem ok_call2 {f : M E} {a b : D} (h : V1 f [a, b] s fun e s' => Q e ρ s') : Ok (gCall 2 f [.v a, .v b] ρ s) Q := ok_gCall [a, b] h
theorem ok_call3 {f : M E} {a b c : D} (h : V1 f [a, b, c] s fun e s' => Q e ρ s') : Ok (gCall 3 f [.v a, .v b, .v c] ρ s) Q := ok_gCall [a, b, c] h
theorem ok_call4 {f : M E} {a b c d : D} (h : V1 f [a, b, c, d] s fun e s' => Q e ρ s') : Ok (gCall 4 f [.v a, .v b, .v c, .v d] ρ s) Q := ok_gCall [a, b, c, d] h
theorem ok_call5 {f : M E} {a b c d g : D} (h : V1 f [a, b, c, d, g] s fun e s' => Q e ρ s') : Ok (gCall 5 f [.v a, .v b, .v c, .v d, .v g] ρ s) Q := ok_gCall [a, b, c, d, g] h
/-! operators -/
@[simp ↓] theorem add_int {i j : Int} : Ok (gAdd (.v (.int i)) (.v (.int j)) ρ s) Q ↔ Q (.v (.int (i + j))) ρ s := Iff.rfl
@[simp ↓] theorem add_str {x y : Str} : gAdd (.v (.str x)) (.v (.str y)) ρ s = grdR (x.length + y.length ≤ sizeLine) (.ok (.v (.str (x ++ y))) ρ s) := rfl
@[simp ↓] theorem add_tup {x y : List D} : gAdd (.v (.tup x)) (.v (.tup y)) ρ s = grdR (x.length + y.length ≤ sizeLine) (.ok (.v (.tup (x ++ y))) ρ s) := rfl
@[simp ↓] theorem add_vv {x y : List D} : gAdd (.v (.lst x)) (.v (.lst y)) ρ s = grdR (x.length + y.length ≤ sizeLine) (.ok (.f (.lst (x ++ y))) ρ s) := rfl
@[simp ↓] theorem add_vf {x y : List D} : gAdd (.v (.lst x)) (.f (.lst y)) ρ s = grdR (x.length + y.length ≤ sizeLine) (.ok (.f (.lst (x ++ y))) ρ s) := rfl
@[simp ↓] theorem add_fv {x y : List D} : gAdd (.f (.lst x)) (.v (.lst y)) ρ s = grdR (x.length + y.length ≤ sizeLine) (.ok (.f (.lst (x ++ y))) ρ s) := rfl
@[simp ↓] theorem add_ff {x y : List D} : gAdd (.f (.lst x)) (.f (.lst y)) ρ s = grdR (x.length + y.length ≤ sizeLine) (.ok (.f (.lst (x ++ y))) ρ s) := rfl
theorem g_I {t : Int → Int → Bool} {f : Int → Int → Int} {i j : Int} : Ok (gI t f (.v (.int i)) (.v (.int j)) ρ s) Q ↔ t i j = true ∧ Q (.v (.int (f i j))) ρ s := ok_grd (r := .ok (E.v (.int (f i j))) ρ s)
@[simp ↓] theorem g_mul {i j : Int} : Ok (gI tMulW (· * ·) (.v (.int i)) (.v (.int j)) ρ s) Q ↔ tMulW i j = true ∧ Q (.v (.int (i * j))) ρ s := g_I
@[simp ↓] theorem g_sub {i j : Int} : Ok (DL.gSub (.v (.int i)) (.v (.int j)) ρ s) Q ↔ Q (.v (.int (i - j))) ρ s := by
  unfold DL.gSub
  rw [g_I]
  simp
@[simp ↓] theorem g_fdiv {i j : Int} : Ok (gFdiv (.v (.int i)) (.v (.int j)) ρ s) Q ↔ (0 < j ∧ j.natAbs.log2 < 9000) ∧ Q (.v (.int (i / j))) ρ s := by
  unfold gFdiv
  rw [g_I]
  simp
@[simp ↓] theorem g_mod {i j : Int} : Ok (gMod (.v (.int i)) (.v (.int j)) ρ s) Q ↔ 0 < j ∧ Q (.v (.int (i % j))) ρ s := by
  unfold gMod
  rw [g_I]
  simp
@[simp ↓] theorem g_pow {i j : Int} : Ok (gPow (.v (.int i)) (.v (.int j)) ρ s) Q ↔ (0 ≤ j ∧ j ≤ 1000000 ∧ i.natAbs < 2 ^ 64) ∧ Q (.v (.int (i ^ j.toNat))) ρ s := by
  unfold gPow
  rw [g_I]
  simp [and_assoc]
@[simp ↓] theorem g_neg {i : Int} : Ok (gNeg (.v (.int i)) ρ s) Q ↔ Q (.v (.int (-i))) ρ s := Iff.rfl
@[simp ↓] theorem g_C {f : Int → Int → Bool} {i j : Int} : Ok (gC f (.v (.int i)) (.v (.int j)) ρ s) Q ↔ Q (.v (.bl (f i j))) ρ s := Iff.rfl
@[simp ↓] theorem eq_int {i j : Int} : Ok (gEqn false (.v (.int i)) (.v (.int j)) ρ s) Q ↔ Q (.v (.bl (decide (i = j)))) ρ s := Iff.rfl
@[simp ↓] theorem ne_int {i j : Int} : Ok (gEqn true (.v (.int i)) (.v (.int j)) ρ s) Q ↔ Q (.v (.bl (!decide (i = j)))) ρ s := Iff.rfl
@[simp ↓] theorem eq_str {i j : Str} : Ok (gEqn false (.v (.str i)) (.v (.str j)) ρ s) Q ↔ Q (.v (.bl (decide (i = j)))) ρ s := Iff.rfl
@[simp ↓] theorem ne_str {i j : Str} : Ok (gEqn true (.v (.str i)) (.v (.str j)) ρ s) Q ↔ Q (.v (.bl (!decide (i = j)))) ρ s := Iff.rfl
def okV (ρ : List Sl) (s : List Cl) (d : D) : R E := .ok (.v d) ρ s
@[simp ↓] theorem ok_okV {d : D} : Ok (okV ρ s d) Q ↔ Q (.v d) ρ s := Iff.rfl
theorem opt_ix {o : Option D} : (match o with | some d => R.ok (E.v d) ρ s | none => .no) = optR o (okV ρ s) := by cases o <;> rfl
@[simp ↓] theorem ix_tup {xs : List D} {i : Int} : gIx (.v (.tup xs)) (.v (.int i)) ρ s = optR (atI xs i) (okV ρ s) := opt_ix
@[simp ↓] theorem ix_lst {xs : List D} {i : Int} : gIx (.v (.lst xs)) (.v (.int i)) ρ s = optR (atI xs i) (okV ρ s) := opt_ix
@[simp ↓] theorem ix_f {xs : List D} {i : Int} : gIx (.f (.lst xs)) (.v (.int i)) ρ s = optR (atI xs i) (okV ρ s) := opt_ix
@[simp ↓] theorem ix_scr {ns : List Int} {i : Int} : gIx (.v (.scr ns)) (.v (.int i)) ρ s = optR ((atI ns i).map D.int) (okV ρ s) := by
  show (match atI ns i with | some d => R.ok (E.v (.int d)) ρ s | none => .no) = _
  cases atI ns i <;> rfl
def lstC : Cl → Option (List D)
  | .lst xs => some xs
  | _ => none
@[simp] theorem lstC_lst {xs : List D} : lstC (.lst xs) = some xs := rfl
def ixC (i : Int) (ρ : List Sl) (s : List Cl) (c : Cl) : R E := optR (lstC c) fun xs => optR (atI xs i) (okV ρ s)
@[simp ↓] theorem ixC_lst {i : Int} {xs : List D} : ixC i ρ s (.lst xs) = optR (atI xs i) (okV ρ s) := rfl
theorem ix_con {e : E} {i : Int} (hn : ∀ d, e = .v d → ∃ n, d = .ref n) : gIx e (.v (.int i)) ρ s = optR (con e ρ s) (ixC i ρ s) := by
  have k : gIx e (.v (.int i)) ρ s = match con e ρ s with
      | some (.lst xs) => match atI xs i with
        | some d => .ok (.v d) ρ s
        | none => .no
      | _ => .no := by
    cases e with
    | l i => rfl
    | f c => rfl
    | v d =>
      obtain ⟨n, rfl⟩ := hn d rfl
      rfl
  rw [k]
  cases con e ρ s with
  | none => rfl
  | some c =>
    cases c with
    | lst xs => exact opt_ix
    | _ => rfl
@[simp ↓] theorem ix_ref {n : Nat} {i : Int} : gIx (.v (.ref n)) (.v (.int i)) ρ s = optR s[n]? (ixC i ρ s) := ix_con fun d h => by cases h; exact ⟨n, rfl⟩
@[simp ↓] theorem ix_l {j : Nat} {i : Int} : gIx (.l j) (.v (.int i)) ρ s = optR (con (.l j) ρ s) (ixC i ρ s) := ix_con fun d h => by cases h
def conSl : Option Sl → Option Cl
  | some (.own c) => some c
  | some (.io c) => some c
  | _ => none
@[simp] theorem conSl_own {c} : conSl (some (.own c)) = some c := rfl
@[simp] theorem con_l {j : Nat} : con (.l j) ρ s = conSl ρ[j]? := by
  have k : con (.l j) ρ s = (match ρ[j]? with | some (.own c) => some c | some (.io c) => some c | _ => none) := rfl
  rw [k]
  cases ρ[j]? with
  | none => rfl
  | some x => cases x <;> rfl
/-! builtins -/
@[simp ↓] theorem b_abs {i : Int} : Ok (gAbs [.v (.int i)] ρ s) Q ↔ Q (.v (.int (if i < 0 then -i else i))) ρ s := Iff.rfl
@[simp ↓] theorem b_int {i : Int} : Ok (gInt [.v (.int i)] ρ s) Q ↔ Q (.v (.int i)) ρ s := Iff.rfl
@[simp ↓] theorem b_intB {b : Bool} : Ok (gInt [.v (.bl b)] ρ s) Q ↔ Q (.v (.int (if b then 1 else 0))) ρ s := Iff.rfl
@[simp ↓] theorem len_str {x : Str} : gLen [.v (.str x)] ρ s = grdR (x.length ≤ sizeLine) (.ok (.v (.int x.length)) ρ s) := rfl
@[simp ↓] theorem len_tup {xs : List D} : Ok (gLen [.v (.tup xs)] ρ s) Q ↔ Q (.v (.int xs.length)) ρ s := Iff.rfl
@[simp ↓] theorem len_lst {xs : List D} : Ok (gLen [.v (.lst xs)] ρ s) Q ↔ Q (.v (.int xs.length)) ρ s := Iff.rfl
@[simp ↓] theorem len_f {xs : List D} : Ok (gLen [.f (.lst xs)] ρ s) Q ↔ Q (.v (.int xs.length)) ρ s := Iff.rfl
@[simp ↓] theorem len_scr {ns : List Int} : Ok (gLen [.v (.scr ns)] ρ s) Q ↔ Q (.v (.int ns.length)) ρ s := by
  show Q (.v (.int (ns.map D.int).length)) ρ s ↔ _
  rw [List.length_map]
end
end DP
set_option Elab.async false
set_option linter.all false
set_option maxRecDepth 100000
set_option maxHeartbeats 4000000
/-! DP3: stores, slots, sizes. -/
namespace DP
open PySem L2 DL
section
variable {ρ ρ' : List Sl} {s s' : List Cl} {Q : E → List Sl → List Cl → Prop} {QU : Unit → List Sl → List Cl → Prop} {f g : M E} {n : Nat} {d : D} {xs : List D}
@[simp ↓] theorem ok_setIx : Ok (setIx f g (.v d) ρ s) QU ↔ Ok (f ρ s) fun o ρ s => Ok (g ρ s) fun i ρ s => Ok (setIxA d o i ρ s) QU := by
  show Ok (M.bind f (fun o => M.bind g fun i => setIxA d o i) ρ s) QU ↔ _
  rw [ok_bind]
  exact ok_fun fun _ _ _ => ok_bind
def setC (n : Nat) (d : D) (i : Int) (ρ : List Sl) (s : List Cl) (c : Cl) : R Unit := optR (lstC c) fun xs => optR (ixN xs.length i) fun j => .ok () ρ (s.set n (.lst (xs.set j d)))
@[simp ↓] theorem setC_lst {i : Int} : setC n d i ρ s (.lst xs) = optR (ixN xs.length i) fun j => .ok () ρ (s.set n (.lst (xs.set j d))) := rfl
@[simp ↓] theorem setIx_ref {i : Int} : setIxA d (.v (.ref n)) (.v (.int i)) ρ s = optR s[n]? (setC n d i ρ s) := by
  unfold setIxA
  show (match s[n]? with | some (.lst xs) => setIxV xs d (.v (.ref n)) (.v (.int i)) ρ s | _ => .no) = _
  cases h : s[n]? with
  | none => rfl
  | some c =>
    cases c with
    | lst xs =>
      dsimp only
      unfold setIxV
      dsimp only
      have hn : n < s.length := (List.getElem?_eq_some_iff.mp h).1
      rw [opt_some, setC_lst]
      cases ixN xs.length i with
      | none => rfl
      | some j => simp [setCon, hn]
    | _ => rfl
theorem log2_lt_of {i : Int} {k : Nat} : i.natAbs < 2 ^ k → 0 < k → i.natAbs.log2 < k := fun h h0 => by
  by_cases z : i.natAbs = 0
  · rw [z]; simpa using h0
  · exact (Nat.log2_lt z).mpr h
theorem lg64 {i : Int} (h : -18446744073709551616 < i) (h2 : i < 18446744073709551616) : i.natAbs.log2 < 64 := log2_lt_of (by omega) (by omega)
theorem lg9 {i : Int} (h : -18446744073709551616 < i) (h2 : i < 18446744073709551616) : i.natAbs.log2 < 9000 := Nat.lt_trans (lg64 h h2) (by decide)
theorem mulW_64 {i j : Int} (h : -18446744073709551616 < i) (h2 : i < 18446744073709551616) (h' : -18446744073709551616 < j) (h2' : j < 18446744073709551616) : tMulW i j = true := by
  unfold tMulW
  have h1 := lg64 h h2
  have h2 := lg64 h' h2'
  exact decide_eq_true (by omega)
theorem mulW_of {i j : Int} (hi : i.natAbs < 2 ^ 5000) (hj : j.natAbs < 2 ^ 5000) : tMulW i j = true := by
  unfold tMulW
  have h1 := log2_lt_of hi (by omega)
  have h2 := log2_lt_of hj (by omega)
  exact decide_eq_true (by omega)
end
/-- nothing but the thing n has changed -/
structure Same (n : Nat) (s s' : List Cl) : Prop where
  len : s'.length = s.length
  oth : ∀ m, m ≠ n → s'[m]? = s[m]?
theorem Same.refl {n : Nat} {s : List Cl} : Same n s s := ⟨rfl, fun _ _ => rfl⟩
theorem Same.trans {n : Nat} {s s1 s2 : List Cl} (a : Same n s s1) (b : Same n s1 s2) : Same n s s2 := ⟨b.len.trans a.len, fun m h => (b.oth m h).trans (a.oth m h)⟩
theorem Same.set {n : Nat} {s : List Cl} {c : Cl} : Same n s (s.set n c) := ⟨List.length_set .., fun m h => List.getElem?_set_ne (Ne.symm h)⟩
/-- a box of draws, with at most k drawn anew -/
def BoxOk (k : Int) (c : Cl) : Prop := ∃ (a m t : Int) (b : Bool), c = .lst [.int a, .bl b, .int m, .int t] ∧ 0 ≤ a ∧ 0 ≤ m ∧ m < 2147483648 ∧ 0 ≤ t ∧ t ≤ k
def Bx (n : Nat) (k : Int) (s : List Cl) : Prop := ∃ c, s[n]? = some c ∧ BoxOk k c
theorem Bx.up {n : Nat} {k k' : Int} {s : List Cl} (h : Bx n k s) (hk : k ≤ k') : Bx n k' s := by
  obtain ⟨c, h1, a, m, t, b, h2, h3, h4, h5, h6, h7⟩ := h
  exact ⟨c, h1, a, m, t, b, h2, h3, h4, h5, h6, by omega⟩
theorem bx_set {n : Nat} {k : Int} {s : List Cl} {a m t : Int} {b : Bool} (hn : n < s.length) (h1 : 0 ≤ a) (h2 : 0 ≤ m) (h3 : m < 2147483648) (h4 : 0 ≤ t) (h5 : t ≤ k) : Bx n k (s.set n (.lst [.int a, .bl b, .int m, .int t])) :=
  ⟨_, List.getElem?_set_self hn, a, m, t, b, rfl, h1, h2, h3, h4, h5⟩
end DP
set_option Elab.async false
set_option linter.all false
set_option maxRecDepth 100000
set_option maxHeartbeats 4000000
/-! DP4: what is walked, builtins, methods. -/
namespace DP
open PySem L2 DL
section
variable {ρ ρ' : List Sl} {s s' : List Cl} {Q : E → List Sl → List Cl → Prop} {QU : Unit → List Sl → List Cl → Prop} {QF : Fl → List Sl → List Cl → Prop} {QL : List D → List Sl → List Cl → Prop} {QW : Ws → List Sl → List Cl → Prop} {f g : M E} {n : Nat} {d a b : D} {xs ys : List D} {e : E} {fl : M (List D)} {t : M Bool} {fd fk : M D}
/-! what is walked -/
@[simp ↓] theorem ok_itD : Ok (itD f ρ s) QL ↔ Ok (f ρ s) fun e ρ s => Ok (frz e ρ s) fun d ρ s => Ok (walkD d ρ s) QL := by
  unfold itD
  rw [ok_bind, ok_bind]
@[simp ↓] theorem wk_tup : walkD (.tup xs) ρ s = .ok xs ρ s := rfl
@[simp ↓] theorem wk_lst : walkD (.lst xs) ρ s = .ok xs ρ s := rfl
@[simp ↓] theorem wk_scr {ns : List Int} : walkD (.scr ns) ρ s = .ok (ns.map D.int) ρ s := rfl
@[simp ↓] theorem wk_str {x : Str} : walkD (.str x) ρ s = .ok (x.cps.toList.map fun c => D.str ⟨#[c]⟩) ρ s := rfl
@[simp ↓] theorem ok_itC : Ok (itC f ρ s) QW ↔ Ok (f ρ s) fun e ρ s => Ok (frz e ρ s) fun d ρ s => Ok (walkC d ρ s) QW := by
  unfold itC
  rw [ok_bind, ok_bind]
@[simp ↓] theorem wc_tup : walkC (.tup xs) ρ s = .ok ⟨xs, none⟩ ρ s := rfl
@[simp ↓] theorem wc_lst : walkC (.lst xs) ρ s = .ok ⟨xs, none⟩ ρ s := rfl
def wcR (n : Nat) (ρ : List Sl) (s : List Cl) (c : Cl) : R Ws := optR (lstC c) fun ys => .ok ⟨ys, some (n, ys)⟩ ρ s
@[simp ↓] theorem wcR_lst : wcR n ρ s (.lst xs) = .ok ⟨xs, some (n, xs)⟩ ρ s := rfl
@[simp ↓] theorem wc_ref : walkC (.ref n) ρ s = optR s[n]? (wcR n ρ s) := by
  show (match s[n]? with | some (.lst ys) => R.ok (Ws.mk ys (some (n, ys))) ρ s | _ => .no) = _
  cases s[n]? with
  | none => rfl
  | some c => cases c <;> rfl
@[simp ↓] theorem w_r1 {j : Int} : wR1 [.int j] ρ s = grdR (-(2 ^ 62) ≤ j ∧ j < 2 ^ 62) (.ok ((List.range j.toNat).map fun i => D.int (0 + (i : Nat))) ρ s) := rfl
@[simp ↓] theorem w_r2 {i j : Int} : wR2 [.int i, .int j] ρ s = grdR (-(2 ^ 62) ≤ i ∧ i < 2 ^ 62 ∧ -(2 ^ 62) ≤ j ∧ j < 2 ^ 62) (.ok ((List.range (j - i).toNat).map fun k => D.int (i + (k : Nat))) ρ s) := rfl
@[simp ↓] theorem we_tup : wEnum [.tup xs] ρ s = .ok (enumD xs) ρ s := rfl
@[simp ↓] theorem we_lst : wEnum [.lst xs] ρ s = .ok (enumD xs) ρ s := rfl
@[simp ↓] theorem wec_tup : wEnumC [.tup xs] ρ s = .ok ⟨enumD xs, none⟩ ρ s := rfl
@[simp ↓] theorem wec_lst : wEnumC [.lst xs] ρ s = .ok ⟨enumD xs, none⟩ ρ s := rfl
def wecR (n : Nat) (ρ : List Sl) (s : List Cl) (c : Cl) : R Ws := optR (lstC c) fun ys => .ok ⟨enumD ys, some (n, ys)⟩ ρ s
@[simp ↓] theorem wecR_lst : wecR n ρ s (.lst xs) = .ok ⟨enumD xs, some (n, xs)⟩ ρ s := rfl
@[simp ↓] theorem wec_ref : wEnumC [.ref n] ρ s = optR s[n]? (wecR n ρ s) := by
  show (match s[n]? with | some (.lst ys) => R.ok (Ws.mk (enumD ys) (some (n, ys))) ρ s | _ => .no) = _
  cases s[n]? with
  | none => rfl
  | some c => cases c <;> rfl
@[simp ↓] theorem wz_tt : wZip [.tup xs, .tup ys] ρ s = .ok (zipD xs ys) ρ s := rfl
@[simp ↓] theorem wz_ll : wZip [.lst xs, .lst ys] ρ s = .ok (zipD xs ys) ρ s := rfl
@[simp ↓] theorem wz_tl : wZip [.tup xs, .lst ys] ρ s = .ok (zipD xs ys) ρ s := rfl
@[simp ↓] theorem wz_lt : wZip [.lst xs, .tup ys] ρ s = .ok (zipD xs ys) ρ s := rfl
/-- a comprehension with a watch -/
theorem ok_lcC {w : Ws} {vs : List Nat} {k : E → M Unit} (I : List D → List D → List Sl → List Cl → Prop) (hok : ∀ acc rest ρ s, I acc rest ρ s → w.ok s) (step : ∀ d rest acc ρ s, I acc (d :: rest) ρ s → Ok (k (.v d) ρ s) fun _ ρ s => Ok (t ρ s) fun c ρ s => if c = true then Ok (fd ρ s) fun y ρ s => acc.length < sizeLine ∧ I (acc ++ [y]) rest (clr vs ρ) s else I acc rest (clr vs ρ) s)
    (done : ∀ acc ρ s, I acc [] ρ s → QL acc ρ s) : ∀ (xs acc : List D) (ρ : List Sl) (s : List Cl), I acc xs ρ s → Ok (lcC w vs k t fd xs acc ρ s) QL
  | [], acc, ρ, s, h => by
    unfold lcC
    rw [chk_ok (hok _ _ _ _ h)]
    exact done acc ρ s h
  | d :: xs, acc, ρ, s, h => by
    unfold lcC
    rw [chk_ok (hok _ _ _ _ h), ok_bind]
    refine (step d xs acc ρ s h).mono fun _ ρ s q => ?_
    rw [ok_bind]
    refine q.mono fun c ρ s q => ?_
    cases c with
    | true =>
      rw [if_pos rfl] at q
      rw [if_pos rfl, ok_bind]
      refine q.mono fun y ρ s q => ?_
      rw [ok_bind]
      show Ok ((if acc.length < sizeLine then lcC w vs k t fd xs (acc ++ [y]) else M.no) (clr vs ρ) s) QL
      rw [if_pos q.1]
      exact ok_lcC I hok step done xs _ _ _ q.2
    | false =>
      rw [if_neg Bool.false_ne_true] at q
      rw [if_neg Bool.false_ne_true, ok_bind]
      exact ok_lcC I hok step done xs _ _ _ q
@[simp ↓] theorem ok_eLcC {vs : List Nat} {k : E → M Unit} {fw : M Ws} : Ok (eLcC vs fw k t fd ρ s) Q ↔ Ok (fw ρ s) fun w ρ s => Ok (lcC w vs k t fd w.xs [] (clr vs ρ) s) fun acc ρ' s' => Q (.f (.lst acc)) (resto ρ vs ρ') s' := by
  unfold eLcC
  rw [ok_bind]
  suffices h : ∀ w ρ s, Ok (lcR vs ρ Cl.lst (M.bind (clrM vs) (fun _ => lcC w vs k t fd w.xs []) ρ s)) Q ↔ Ok (lcC w vs k t fd w.xs [] (clr vs ρ) s) fun acc ρ' s' => Q (.f (.lst acc)) (resto ρ vs ρ') s' by
    exact ok_fun h
  intro w ρ s
  show Ok (lcR vs ρ Cl.lst (lcC w vs k t fd w.xs [] (clr vs ρ) s)) Q ↔ _
  cases lcC w vs k t fd w.xs [] (clr vs ρ) s <;> exact Iff.rfl
/-! several names at once -/
@[simp ↓] theorem ok_par2 {i j : Nat} : Ok (par2 i j [.v a, .v b] ρ s) QF ↔ Ok (put i (.v a) ρ s) fun _ ρ s => Ok (put j (.v b) ρ s) fun _ ρ s => QF .nx ρ s := by
  show Ok (M.bind (put i (.v a)) (fun _ => M.bind (put j (.v b)) fun _ => sNx) ρ s) QF ↔ _
  rw [ok_bind]
  exact ok_fun fun _ _ _ => ok_bind
@[simp ↓] theorem ok_par2f {i j : Nat} {c : Cl} : Ok (par2 i j [.v a, .f c] ρ s) QF ↔ Ok (put i (.v a) ρ s) fun _ ρ s => Ok (put j (.f c) ρ s) fun _ ρ s => QF .nx ρ s := by
  show Ok (M.bind (put i (.v a)) (fun _ => M.bind (put j (.f c)) fun _ => sNx) ρ s) QF ↔ _
  rw [ok_bind]
  exact ok_fun fun _ _ _ => ok_bind
@[simp ↓] theorem ok_parN {is : List Nat} {es : List E} : Ok (parN is es ρ s) QF ↔ (es.all noL = true ∧ es.length ≤ sizeLine ∧ es.length = is.length) ∧ Ok (putAll is es ρ s) fun _ ρ s => QF .nx ρ s := by
  unfold parN
  by_cases h : es.all noL = true ∧ es.length ≤ sizeLine ∧ es.length = is.length
  · rw [if_pos h, ok_bind]
    exact ⟨fun q => ⟨h, q⟩, fun q => q.2⟩
  · rw [if_neg h]
    exact ⟨fun q => q.elim, fun q => (h q.1).elim⟩
@[simp ↓] theorem pa_nil : Ok (putAll [] [] ρ s) QU ↔ QU () ρ s := Iff.rfl
@[simp ↓] theorem pa_cons {i : Nat} {is : List Nat} {es : List E} : Ok (putAll (i :: is) (e :: es) ρ s) QU ↔ Ok (put i e ρ s) fun _ ρ s => Ok (putAll is es ρ s) QU := ok_bind
@[simp] theorem noL_v : noL (.v d) = true := rfl
@[simp] theorem noL_f {c} : noL (.f c) = true := rfl
/-! isinstance -/
@[simp ↓] theorem g_isi {kit : Ty → Option Bool} : gIsi kit e ρ s = optR ((tyD e ρ s).bind kit) fun b => .ok (.v (.bl b)) ρ s := by
  unfold gIsi
  cases tyD e ρ s with
  | none => rfl
  | some t =>
    show (match kit t with | some b => R.ok (E.v (.bl b)) ρ s | none => .no) = optR (kit t) _
    cases kit t <;> rfl
@[simp] theorem ty_non : tyD (.v .non) ρ s = some .non := rfl
@[simp] theorem ty_bl {b : Bool} : tyD (.v (.bl b)) ρ s = some .bl := rfl
@[simp] theorem ty_int {i : Int} : tyD (.v (.int i)) ρ s = some .int := rfl
@[simp] theorem ty_str {x : Str} : tyD (.v (.str x)) ρ s = some .str := rfl
@[simp] theorem ty_tup : tyD (.v (.tup xs)) ρ s = some .tup := rfl
@[simp] theorem ty_lst : tyD (.v (.lst xs)) ρ s = some .lst := rfl
@[simp] theorem ty_ins {c : Str} {ns : List Str} : tyD (.v (.ins c ns xs)) ρ s = some (.own c) := rfl
@[simp] theorem ty_dkf {ks : List Key} : tyD (.f (.dk ks xs)) ρ s = some .dct := rfl
def tyC : Cl → Ty
  | .lst _ => .lst
  | .dk _ _ => .dct
  | .dt _ _ => .dct
  | .ins c _ _ => .own c
@[simp] theorem tyC_lst : tyC (.lst xs) = .lst := rfl
theorem ty_ref : tyD (.v (.ref n)) ρ s = (s[n]?).map tyC := by
  have k : tyD (.v (.ref n)) ρ s = (match s[n]? with | some (.lst _) => some .lst | some (.dk _ _) => some .dct | some (.dt _ _) => if (s[n]?).isSome = true then some .dct else none | some (.ins c _ _) => some (.own c) | none => none) := by
    unfold tyD
    show (match con (.v (.ref n)) ρ s with | some (.lst _) => some Ty.lst | some (.dk _ _) => some .dct | some (.dt _ _) => if (conW (.v (.ref n)) ρ s).isSome = true then some .dct else none | some (.ins c _ _) => some (.own c) | none => none) = _
    have : con (.v (.ref n)) ρ s = s[n]? := rfl
    rw [this]
    rfl
  rw [k]
  cases h : s[n]? with
  | none => rfl
  | some c => cases c <;> simp [tyC]
end
end DP
set_option Elab.async false
set_option linter.all false
set_option maxRecDepth 100000
set_option maxHeartbeats 4000000
/-! DP5: builtins, methods, own classes, errors. -/
namespace DP
open PySem L2 DL
section
variable {ρ ρ' : List Sl} {s s' : List Cl} {Q : E → List Sl → List Cl → Prop} {QU : Unit → List Sl → List Cl → Prop} {QF : Fl → List Sl → List Cl → Prop} {QL : List D → List Sl → List Cl → Prop} {QI : Option Int → List Sl → List Cl → Prop} {QE : List E → List Sl → List Cl → Prop} {f g : M E} {n : Nat} {d a b : D} {xs ys : List D} {e : E} {fl : M (List D)} {fe : M (List E)} {t : M Bool} {fd fk : M D}
/-! slices -/
@[simp ↓] theorem ok_oNo : Ok (oNo ρ s) QI ↔ QI none ρ s := Iff.rfl
def oAtR (ρ : List Sl) (s : List Cl) : E → R (Option Int)
  | .v (.int i) => .ok (some i) ρ s
  | _ => .no
@[simp ↓] theorem oAtR_int {i : Int} : oAtR ρ s (.v (.int i)) = .ok (some i) ρ s := rfl
@[simp ↓] theorem ok_oAt : Ok (oAt f ρ s) QI ↔ Ok (f ρ s) fun e ρ s => Ok (oAtR ρ s e) QI := by
  unfold oAt
  rw [ok_bind]
  refine ok_fun fun e ρ s => ?_
  cases e with
  | v d => cases d <;> exact Iff.rfl
  | _ => exact Iff.rfl
def cutR (a : E) (lo hi : Option Int) (ρ : List Sl) (s : List Cl) : R E := if gCutOk a lo hi ρ s = true then gCut a lo hi ρ s else .no
@[simp ↓] theorem ok_eSl {lo hi : M (Option Int)} : Ok (eSl f lo hi ρ s) Q ↔ Ok (f ρ s) fun a ρ s => Ok (lo ρ s) fun l ρ s => Ok (hi ρ s) fun h ρ s => Ok (cutR a l h ρ s) Q := by
  unfold eSl
  rw [ok_bind]
  refine ok_fun fun e ρ s => ?_
  rw [ok_bind]
  refine ok_fun fun e ρ s => ?_
  rw [ok_bind]
  exact ok_fun fun e ρ s => Iff.rfl
@[simp ↓] theorem cut_tup {lo hi : Option Int} : cutR (.v (.tup xs)) lo hi ρ s = .ok (.v (.tup (cutD xs lo hi))) ρ s := rfl
@[simp ↓] theorem cut_lst {lo hi : Option Int} : cutR (.v (.lst xs)) lo hi ρ s = .ok (.f (.lst (cutD xs lo hi))) ρ s := rfl
@[simp ↓] theorem cut_scr {lo hi : Option Int} {ns : List Int} : cutR (.v (.scr ns)) lo hi ρ s = .ok (.f (.lst (cutD (ns.map D.int) lo hi))) ρ s := rfl
@[simp ↓] theorem cut_str {lo hi : Option Int} {x : Str} : cutR (.v (.str x)) lo hi ρ s = grdR (x.length ≤ sizeLine) (.ok (.v (.str (Txt.slice x lo hi))) ρ s) := rfl
/-! list, tuple, sum, all -/
@[simp ↓] theorem list_tup : gList [.v (.tup xs)] ρ s = .ok (.f (.lst xs)) ρ s := rfl
@[simp ↓] theorem list_lst : gList [.v (.lst xs)] ρ s = .ok (.f (.lst xs)) ρ s := rfl
@[simp ↓] theorem list_f : gList [.f (.lst xs)] ρ s = .ok (.f (.lst xs)) ρ s := rfl
@[simp ↓] theorem tuple_tup : gTuple [.v (.tup xs)] ρ s = .ok (.v (.tup xs)) ρ s := rfl
@[simp ↓] theorem tuple_lst : gTuple [.v (.lst xs)] ρ s = .ok (.v (.tup xs)) ρ s := rfl
@[simp ↓] theorem tuple_f : gTuple [.f (.lst xs)] ρ s = .ok (.v (.tup xs)) ρ s := rfl
@[simp] theorem items_lst : itemsE (.v (.lst xs)) ρ s = some (false, xs) := rfl
@[simp] theorem items_tup : itemsE (.v (.tup xs)) ρ s = some (true, xs) := rfl
@[simp] theorem items_f : itemsE (.f (.lst xs)) ρ s = some (false, xs) := rfl
theorem items_ref : itemsE (.v (.ref n)) ρ s = (s[n]?).bind fun c => (lstC c).map fun xs => (false, xs) := by
  show (match s[n]? with | some (.lst xs) => some (false, xs) | _ => none) = _
  cases s[n]? with
  | none => rfl
  | some c => cases c <;> rfl
theorem items_l {j : Nat} : itemsE (.l j) ρ s = (con (.l j) ρ s).bind fun c => (lstC c).map fun xs => (false, xs) := by
  show (match con (.l j) ρ s with | some (.lst xs) => some (false, xs) | _ => none) = _
  cases con (.l j) ρ s with
  | none => rfl
  | some c => cases c <;> rfl
theorem list_of {ys : List D} {b : Bool} (h : itemsE e ρ s = some (b, ys)) : gList [e] ρ s = .ok (.f (.lst ys)) ρ s := by
  show (match itemsE e ρ s with | some (_, xs) => R.ok (E.f (.lst xs)) ρ s | none => .no) = _
  rw [h]
theorem len_of {ys : List D} {b : Bool} (h : itemsE e ρ s = some (b, ys)) : gLen [e] ρ s = .ok (.v (.int ys.length)) ρ s := by
  unfold gLen
  dsimp only
  split
  · cases h
  · rw [h]
theorem ints_map : ∀ (ns : List Int), mapO intD (ns.map D.int) = some ns
  | [] => rfl
  | n :: ns => by
    rw [List.map_cons]
    unfold mapO
    rw [ints_map ns]
    rfl
theorem bls_map : ∀ (bs : List Bool), mapO blD (bs.map D.bl) = some bs
  | [] => rfl
  | n :: ns => by
    rw [List.map_cons]
    unfold mapO
    rw [bls_map ns]
    rfl
theorem strs_map : ∀ (bs : List Str), mapO strD (bs.map D.str) = some bs
  | [] => rfl
  | n :: ns => by
    rw [List.map_cons]
    unfold mapO
    rw [strs_map ns]
    rfl
theorem sum_f {ns : List Int} : gSum [.f (.lst (ns.map D.int))] ρ s = .ok (.v (.int ns.sum)) ρ s := by
  show (match mapO intD (ns.map D.int) with | some ns => R.ok (E.v (.int ns.sum)) ρ s | none => .no) = _
  rw [ints_map]
theorem all_f {bs : List Bool} : gAll [.f (.lst (bs.map D.bl))] ρ s = .ok (.v (.bl (bs.all id))) ρ s := by
  show (match mapO blD (bs.map D.bl) with | some bs => R.ok (E.v (.bl (bs.all id))) ρ s | none => .no) = _
  rw [bls_map]
theorem any_f {bs : List Bool} : gAny [.f (.lst (bs.map D.bl))] ρ s = .ok (.v (.bl (bs.any id))) ρ s := by
  show (match mapO blD (bs.map D.bl) with | some bs => R.ok (E.v (.bl (bs.any id))) ρ s | none => .no) = _
  rw [bls_map]
@[simp ↓] theorem rep_lst {k : Int} : gRepL (.f (.lst xs)) (.v (.int k)) ρ s = grdR (-(2 ^ 63) ≤ k ∧ k < 2 ^ 63 ∧ xs.length * k.toNat ≤ sizeLine) (.ok (.f (.lst (List.replicate k.toNat xs).flatten)) ρ s) := rfl
@[simp ↓] theorem rev_tup : gRevT (.v (.tup xs)) ρ s = .ok (.v (.tup xs.reverse)) ρ s := rfl
@[simp ↓] theorem inK_str {neg : Bool} {ks : List Str} {z : Str} : gInK neg ks (.v (.str z)) ρ s = .ok (.v (.bl (negB neg (ks.contains z)))) ρ s := rfl
@[simp ↓] theorem in_ss {neg : Bool} {x y : Str} : gIn neg (.v (.str x)) (.v (.str y)) ρ s = .ok (.v (.bl (flip neg (inT x y)))) ρ s := rfl
theorem toV_strs : ∀ (bs : List Str), mapO toV (bs.map D.str) = some (bs.map V.str)
  | [] => rfl
  | n :: ns => by
    rw [List.map_cons]
    unfold mapO
    rw [toV_strs ns]
    rfl
theorem in_of {neg : Bool} {z : D} {v : V} {ds : List D} {vs : List V} {b : Bool} (h0 : ∀ x, e = .v (.str x) → False) (h : itemsE e ρ s = some (b, ds)) (hv : toV z = some v) (hvs : mapO toV ds = some vs) : gIn neg (.v z) e ρ s = .ok (.v (.bl (flip neg (inV v vs)))) ρ s := by
  have other : (match itemsE e ρ s with
    | some (_, ds) => match toV z, mapO toV ds with
      | some v, some vs => R.ok (E.v (.bl (flip neg (inV v vs)))) ρ s
      | _, _ => match pyE (.v z) ρ s, pyE e ρ s with
        | some p, some (.list ps) => if SeqAt.shaped p = true ∧ SeqAt.shaped (.list ps) = true then .ok (.v (.bl (flip neg (ps.any fun z => PyData.eqv z p)))) ρ s else .no
        | _, _ => .no
    | none => .no) = .ok (.v (.bl (flip neg (inV v vs)))) ρ s := by rw [h]; dsimp only; rw [hv, hvs]
  cases e with
  | v d =>
    cases d with
    | str x => exact (h0 x rfl).elim
    | _ => cases z <;> exact other
  | l i => cases z <;> exact other
  | f c => cases z <;> exact other
/-! methods of lists and texts -/
@[simp ↓] theorem ok_bm {T : String} {op : E → List D → M E} : Ok (eBm T op f fl ρ s) Q ↔ Ok (f ρ s) fun o ρ s => tyE T o ρ s = true ∧ Ok (fl ρ s) fun ds ρ s => Ok (op o ds ρ s) Q := by
  unfold eBm
  rw [ok_bind]
  refine ok_fun fun o ρ s => ?_
  by_cases h : tyE T o ρ s = true
  · rw [if_pos h, ok_bind]
    exact ⟨fun q => ⟨h, q⟩, fun q => q.2⟩
  · rw [if_neg h]
    exact ⟨fun q => q.elim, fun q => (h q.1).elim⟩
theorem tyE_l {i : Nat} (h : con (.l i) ρ s = some (.lst xs)) : tyE "list" (.l i) ρ s = true := by
  show (match con (.l i) ρ s with | some (.lst _) => ("list" : String) == "list" | _ => false) = true
  rw [h]
  rfl
theorem tyE_ref (h : s[n]? = some (.lst xs)) : tyE "list" (.v (.ref n)) ρ s = true := by
  show (match s[n]? with | some (.lst _) => ("list" : String) == "list" | _ => false) = true
  rw [h]
  rfl
@[simp] theorem tyE_str {x : Str} : tyE "str" (.v (.str x)) ρ s = true := rfl
theorem app_l {i : Nat} (h : ρ[i]? = some (.own (.lst xs))) : oAppend (.l i) [d] ρ s = grdR (xs.length < sizeLine) (.ok (.v .non) (ρ.set i (.own (.lst (xs ++ [d])))) s) := by
  have hc : con (.l i) ρ s = some (.lst xs) := by rw [con_l, h]; rfl
  unfold oAppend
  rw [hc]
  dsimp only
  unfold grdR
  split
  · unfold chg
    rw [bind_eq]
    have : setCon (.l i) (.lst (xs ++ [d])) ρ s = .ok () (ρ.set i (.own (.lst (xs ++ [d])))) s := by
      unfold setCon
      dsimp only
      rw [h]
    rw [this]
    rfl
  · rfl
theorem app_ref (h : s[n]? = some (.lst xs)) : oAppend (.v (.ref n)) [d] ρ s = grdR (xs.length < sizeLine) (.ok (.v .non) ρ (s.set n (.lst (xs ++ [d])))) := by
  have hc : con (.v (.ref n)) ρ s = some (.lst xs) := h
  unfold oAppend
  rw [hc]
  dsimp only
  unfold grdR
  split
  · unfold chg
    rw [bind_eq]
    have : setCon (.v (.ref n)) (.lst (xs ++ [d])) ρ s = .ok () ρ (s.set n (.lst (xs ++ [d]))) := by
      unfold setCon
      dsimp only
      rw [if_pos (List.getElem?_eq_some_iff.mp h).1]
    rw [this]
    rfl
  · rfl
theorem join_strs {a : Str} {zs : List Str} : oJoin (.v (.str a)) [D.lst (zs.map D.str)] ρ s = grdR ((zs.map (·.length)).sum + zs.length * a.length ≤ 16777216) (.ok (.v (.str (Txt.join a zs))) ρ s) := by
  unfold oJoin
  dsimp only
  have e : (jnD (D.lst (zs.map D.str))).bind (mapO strD) = some zs := strs_map zs
  rw [e]
  rfl
theorem join_tstrs {a : Str} {zs : List Str} : oJoin (.v (.str a)) [D.tup (zs.map D.str)] ρ s = grdR ((zs.map (·.length)).sum + zs.length * a.length ≤ 16777216) (.ok (.v (.str (Txt.join a zs))) ρ s) := by
  unfold oJoin
  dsimp only
  have e : (jnD (D.tup (zs.map D.str))).bind (mapO strD) = some zs := strs_map zs
  rw [e]
  rfl
/-! own classes -/
def fldR (cs : List Str) (f : Str) (ρ : List Sl) (s : List Cl) : Cl → R E
  | .ins c ns vs => if cs.contains c = true then optR ((ns.zip vs).lookup f) (okV ρ s) else .no
  | _ => .no
theorem g_fld {cs : List Str} {x : Str} : gFld cs x e ρ s = optR (con e ρ s) (fldR cs x ρ s) := by
  unfold gFld
  cases con e ρ s with
  | none => rfl
  | some c =>
    cases c with
    | ins c ns vs =>
      rw [opt_some]
      unfold fldR
      dsimp only
      split
      · exact opt_ix
      · rfl
    | _ => rfl
@[simp ↓] theorem fld_ins {cs : List Str} {x c : Str} {ns : List Str} {vs : List D} : gFld cs x (.v (.ins c ns vs)) ρ s = grdR (cs.contains c = true) (optR ((ns.zip vs).lookup x) (okV ρ s)) := by
  rw [g_fld]
  rfl
/-- a method called with values alone -/
theorem ok_meth {k : Nat} {c m : Str} {fm : M E} {ns : List Str} {vs : List D} {ds : List D} (hn : ns.contains m = false) (hk : k = ds.length + 1) (h : V1 fm (.ins c ns vs :: ds) s fun e s' => Q e ρ s') (hfe : fe ρ s = .ok (ds.map E.v) ρ s) : Ok (gMeth k c m fm fe (.v (.ins c ns vs)) ρ s) Q := by
  have e : gMeth k c m fm fe (.v (.ins c ns vs)) ρ s = if c = c ∧ ns.contains m = false then M.bind fe (fun es => gCall k fm (.v (.ins c ns vs) :: es)) ρ s else .no := rfl
  rw [e, if_pos ⟨rfl, hn⟩, ok_bind, hfe, ok_ok]
  subst hk
  exact ok_gCall (.ins c ns vs :: ds) h
end
end DP
set_option Elab.async false
set_option linter.all false
set_option maxRecDepth 100000
set_option maxHeartbeats 4000000
/-! DP6: calls that come to a value and change nothing; comprehensions of such. -/
namespace DP
open PySem L2 DL
/-- comes to the value x, and nothing has changed -/
def E1 (f : M E) (ds : List D) (s : List Cl) (x : D) : Prop := f (ds.map Sl.val) s = .ok (.v x) (ds.map fun _ => Sl.no) s
theorem E1.v {f : M E} {ds : List D} {s : List Cl} {x : D} (h : E1 f ds s x) {Q : E → List Cl → Prop} (q : Q (.v x) s) : V1 f ds s Q := by
  unfold V1
  rw [show f (ds.map Sl.val) s = _ from h]
  exact ⟨rfl, fun i => by simp, q⟩
theorem V1.e {f : M E} {ds : List D} {s : List Cl} {x : D} (h : V1 f ds s fun e s' => e = .v x ∧ s' = s) : E1 f ds s x := by
  unfold V1 at h
  obtain ⟨e, as, s', h1, h2, h3, rfl, rfl⟩ := ok_iff.mp h
  unfold E1
  rw [h1, h2]
theorem fn_e {N : Nat} {b : M Fl} {ds : List D} {s : List Cl} {x : D} (h : Ok (b (ds.map Sl.val ++ List.replicate (N - ds.length) .no) s) fun fl ρ s' => ds.length ≤ ρ.length ∧ Rt ρ s' (fun e s' => e = .v x ∧ s' = s) fl) : E1 (fnE N b) ds s x := (fn_val h).e
section
variable {ρ ρ' : List Sl} {s s' : List Cl} {Q : E → List Sl → List Cl → Prop} {QL : List D → List Sl → List Cl → Prop} {f : M E} {a b c d g x : D} {k : E → M Unit} {t : M Bool} {fd : M D} {vs : List Nat} {xs : List D}
theorem call_eq (ds : List D) (h : E1 f ds s x) : gCall ds.length f (ds.map E.v) ρ s = .ok (.v x) ρ s := by
  obtain ⟨e, ρ1, s1, h1, rfl, rfl, rfl⟩ := ok_iff.mp (ok_gCall (ρ := ρ) (Q := fun e ρ1 s1 => e = .v x ∧ ρ1 = ρ ∧ s1 = s) ds (h.v ⟨rfl, rfl, rfl⟩))
  exact h1
theorem call0e (h : E1 f [] s x) : gCall 0 f [] ρ s = .ok (.v x) ρ s := call_eq [] h
theorem call1e (h : E1 f [a] s x) : gCall 1 f [.v a] ρ s = .ok (.v x) ρ s := call_eq [a] h
theorem call2e (h : E1 f [a, b] s x) : gCall 2 f [.v a, .v b] ρ s = .ok (.v x) ρ s := call_eq [a, b] h
theorem call3e (h : E1 f [a, b, c] s x) : gCall 3 f [.v a, .v b, .v c] ρ s = .ok (.v x) ρ s := call_eq [a, b, c] h
theorem call4e (h : E1 f [a, b, c, d] s x) : gCall 4 f [.v a, .v b, .v c, .v d] ρ s = .ok (.v x) ρ s := call_eq [a, b, c, d] h
theorem call5e (h : E1 f [a, b, c, d, g] s x) : gCall 5 f [.v a, .v b, .v c, .v d, .v g] ρ s = .ok (.v x) ρ s := call_eq [a, b, c, d, g] h
theorem ok_lcP (tb : D → Bool) (y : D → D) (hlen : xs.length ≤ sizeLine) (h : ∀ d ∈ xs, Ok (k (.v d) ρ s) fun _ ρ1 s1 => Ok (t ρ1 s1) fun c ρ2 s2 => c = tb d ∧ (if tb d = true then Ok (fd ρ2 s2) fun y' ρ3 s3 => y' = y d ∧ clr vs ρ3 = ρ ∧ s3 = s else clr vs ρ2 = ρ ∧ s2 = s)) (q : QL ((xs.filter tb).map y) ρ s) : Ok (lcD vs k t fd xs [] ρ s) QL := by
  refine ok_lcD (fun acc rest ρ1 s1 => ρ1 = ρ ∧ s1 = s ∧ (∃ done, xs = done ++ rest ∧ acc = (done.filter tb).map y)) ?_ ?_ xs [] ρ s ⟨rfl, rfl, [], rfl, rfl⟩
  · rintro d rest acc ρ1 s1 ⟨rfl, rfl, done, e1, e2⟩
    have hl : acc.length < sizeLine := by
      have h1 : acc.length ≤ done.length := by rw [e2, List.length_map]; exact List.length_filter_le ..
      have h2 : xs.length = done.length + (rest.length + 1) := by rw [e1]; simp
      omega
    have e3 : xs = (done ++ [d]) ++ rest := by rw [e1]; simp
    refine (h d (by rw [e1]; simp)).mono fun _ ρ2 s2 q2 => q2.mono fun c ρ3 s3 ⟨q3, q4⟩ => ?_
    subst q3
    by_cases ht : tb d = true
    · rw [if_pos ht] at q4 ⊢
      refine q4.mono fun y' ρ4 s4 ⟨q5, q6, q7⟩ => ⟨hl, q6, q7, done ++ [d], e3, ?_⟩
      rw [List.filter_append, List.map_append, e2, q5]
      simp [ht]
    · rw [if_neg ht] at q4 ⊢
      refine ⟨q4.1, q4.2, done ++ [d], e3, ?_⟩
      rw [List.filter_append, e2]
      simp [ht]
  · rintro acc ρ1 s1 ⟨rfl, rfl, done, e1, e2⟩
    rw [List.append_nil] at e1
    subst e1
    rw [e2]
    exact q
theorem ok_lcY (y : D → D) (hlen : xs.length ≤ sizeLine) (h : ∀ d ∈ xs, Ok (k (.v d) ρ s) fun _ ρ1 s1 => Ok (fd ρ1 s1) fun y' ρ3 s3 => y' = y d ∧ clr vs ρ3 = ρ ∧ s3 = s) (q : QL (xs.map y) ρ s) : Ok (lcD vs k tYesD fd xs [] ρ s) QL :=
  ok_lcP (fun _ => true) y hlen (fun d hd => (h d hd).mono fun _ ρ1 s1 q => by
    rw [ok_yes]
    exact ⟨rfl, by rw [if_pos rfl]; exact q⟩) (by rw [show xs.filter (fun _ => true) = xs from List.filter_eq_self.mpr fun _ _ => rfl]; exact q)
theorem ok_lcCP {w : Ws} (hw : w.ok s) (tb : D → Bool) (y : D → D) (hlen : xs.length ≤ sizeLine) (h : ∀ d ∈ xs, Ok (k (.v d) ρ s) fun _ ρ1 s1 => Ok (t ρ1 s1) fun c ρ2 s2 => c = tb d ∧ (if tb d = true then Ok (fd ρ2 s2) fun y' ρ3 s3 => y' = y d ∧ clr vs ρ3 = ρ ∧ s3 = s else clr vs ρ2 = ρ ∧ s2 = s)) (q : QL ((xs.filter tb).map y) ρ s) : Ok (lcC w vs k t fd xs [] ρ s) QL := by
  refine ok_lcC (fun acc rest ρ1 s1 => ρ1 = ρ ∧ s1 = s ∧ (∃ done, xs = done ++ rest ∧ acc = (done.filter tb).map y)) (fun acc rest ρ1 s1 ⟨_, e, _⟩ => by rw [e]; exact hw) ?_ ?_ xs [] ρ s ⟨rfl, rfl, [], rfl, rfl⟩
  · rintro d rest acc ρ1 s1 ⟨rfl, rfl, done, e1, e2⟩
    have hl : acc.length < sizeLine := by
      have h1 : acc.length ≤ done.length := by rw [e2, List.length_map]; exact List.length_filter_le ..
      have h2 : xs.length = done.length + (rest.length + 1) := by rw [e1]; simp
      omega
    have e3 : xs = (done ++ [d]) ++ rest := by rw [e1]; simp
    refine (h d (by rw [e1]; simp)).mono fun _ ρ2 s2 q2 => q2.mono fun c ρ3 s3 ⟨q3, q4⟩ => ?_
    subst q3
    by_cases ht : tb d = true
    · rw [if_pos ht] at q4 ⊢
      refine q4.mono fun y' ρ4 s4 ⟨q5, q6, q7⟩ => ⟨hl, q6, q7, done ++ [d], e3, ?_⟩
      rw [List.filter_append, List.map_append, e2, q5]
      simp [ht]
    · rw [if_neg ht] at q4 ⊢
      refine ⟨q4.1, q4.2, done ++ [d], e3, ?_⟩
      rw [List.filter_append, e2]
      simp [ht]
  · rintro acc ρ1 s1 ⟨rfl, rfl, done, e1, e2⟩
    rw [List.append_nil] at e1
    subst e1
    rw [e2]
    exact q
theorem ok_lcCY {w : Ws} (hw : w.ok s) (y : D → D) (hlen : xs.length ≤ sizeLine) (h : ∀ d ∈ xs, Ok (k (.v d) ρ s) fun _ ρ1 s1 => Ok (fd ρ1 s1) fun y' ρ3 s3 => y' = y d ∧ clr vs ρ3 = ρ ∧ s3 = s) (q : QL (xs.map y) ρ s) : Ok (lcC w vs k tYesD fd xs [] ρ s) QL :=
  ok_lcCP hw (fun _ => true) y hlen (fun d hd => (h d hd).mono fun _ ρ1 s1 q => by
    rw [ok_yes]
    exact ⟨rfl, by rw [if_pos rfl]; exact q⟩) (by rw [show xs.filter (fun _ => true) = xs from List.filter_eq_self.mpr fun _ _ => rfl]; exact q)
end
theorem size_big : (1000000 : Nat) ≤ sizeLine := by decide +kernel
end DP
set_option Elab.async false
set_option linter.all false
set_option maxRecDepth 100000
set_option maxHeartbeats 4000000
/-! DP7: chains, own classes made, texts in lists. -/
namespace DP
open PySem L2 DL
section
variable {ρ ρ' : List Sl} {s s' : List Cl} {Q : E → List Sl → List Cl → Prop} {QU : Unit → List Sl → List Cl → Prop} {QF : Fl → List Sl → List Cl → Prop} {QL : List D → List Sl → List Cl → Prop} {QE : List E → List Sl → List Cl → Prop} {f g h : M E} {n : Nat} {d a b x : D} {xs ys : List D} {e : E} {fl : M (List D)} {fe : M (List E)} {t : M Bool} {fd fk : M D} {c c' : Cl}
def chR (b : Bool) (m : R E) (ρ : List Sl) (s : List Cl) : R E := condR b m (.ok (.v (.bl false)) ρ s)
@[simp ↓] theorem ok_chain {g1 g2 : E → E → M E} : Ok (eChain g1 g2 f g h ρ s) Q ↔ Ok (f ρ s) fun a ρ s => Ok (g ρ s) fun b ρ s => Ok (g1 a b ρ s) fun r ρ s => Ok (chainK (M.bind h fun c => g2 b c) r ρ s) Q := by
  unfold eChain
  rw [ok_bind]
  refine ok_fun fun e ρ s => ?_
  rw [ok_bind]
  refine ok_fun fun e ρ s => ?_
  rw [ok_bind]
@[simp ↓] theorem chainK_bl {m : M E} {b : Bool} : chainK m (.v (.bl b)) ρ s = condR b (m ρ s) (.ok (.v (.bl false)) ρ s) := by
  cases b <;> rfl
theorem inV_strs {x : Str} {bs : List Str} : inV (.str x) (bs.map V.str) = decide (x ∈ bs) := by
  unfold inV
  rw [List.any_map]
  induction bs with
  | nil => rfl
  | cons b bs ih =>
    rw [List.any_cons, ih]
    have : ((fun y => eqV y (V.str x)) ∘ V.str) b = decide (x = b) := by
      show eqV (V.str b) (V.str x) = _
      by_cases h : x = b
      · subst h; simp [eqV]
      · have h' : ¬ b = x := fun q => h q.symm
        simp [eqV, h, h']
    rw [this]
    by_cases h : x = b
    · subst h; simp
    · simp [h]
/-- text in a list or tuple of texts -/
theorem in_strs {neg : Bool} {z : Str} {bs : List Str} {b : Bool} (h0 : ∀ x, e = .v (.str x) → False) (h : itemsE e ρ s = some (b, bs.map D.str)) : gIn neg (.v (.str z)) e ρ s = .ok (.v (.bl (flip neg (decide (z ∈ bs))))) ρ s := by
  rw [in_of h0 h rfl (toV_strs bs), inV_strs]
theorem cnt_nodup {xs : List Str} (h : xs.Nodup) : ∀ i, i ≤ xs.length → cnt xs i = i
  | 0, _ => rfl
  | i + 1, hi => by
    have hi' : i < xs.length := hi
    unfold cnt
    have no : (xs.take i).any (· == xs.getD i Str.empty) = false := by
      rw [List.any_eq_false]
      intro y hy q
      rw [beq_iff_eq] at q
      rw [List.getD_eq_getElem?_getD, List.getElem?_eq_getElem hi'] at q
      have q : y = xs[i] := q
      obtain ⟨j, hj, e⟩ := List.getElem_of_mem hy
      have hj' : j < i := by
        have := List.length_take_le i xs
        rw [List.length_take] at hj
        omega
      rw [List.getElem_take] at e
      have := (List.nodup_iff_pairwise_ne.mp h)
      rw [List.pairwise_iff_getElem] at this
      exact this j i (by omega) hi' hj' (by rw [e, q])
    rw [no, cnt_nodup h i (by omega)]
    simp
theorem cnt_of {bs : List Str} {b : Bool} (h : itemsE e ρ s = some (b, bs.map D.str)) (hn : bs.Nodup) (hl : bs.length ≤ 1000) : gCnt e ρ s = .ok (.v (.int bs.length)) ρ s := by
  unfold gCnt
  rw [h]
  dsimp only
  rw [strs_map]
  dsimp only
  rw [if_pos hl, cnt_nodup hn _ (Nat.le_refl _)]
/-! a thing that is made -/
def VI (f : M E) (c : Cl) (ds : List D) (s : List Cl) (Q : Cl → List Cl → Prop) : Prop := Ok (f (.io c :: ds.map Sl.val) s) fun e as s' => e = .v .non ∧ ∃ c', as = .io c' :: ds.map (fun _ => Sl.no) ∧ Q c' s'
theorem fn_io {N : Nat} {b : M Fl} {ds : List D} {Q : Cl → List Cl → Prop} (h : Ok (b (.io c :: (ds.map Sl.val ++ List.replicate (N - (ds.length + 1)) .no)) s) fun fl ρ s' => fl = .nx ∧ ∃ c' ρ1, ρ = .io c' :: ρ1 ∧ ds.length ≤ ρ1.length ∧ Q c' s') : VI (fnE N b) c ds s Q := by
  unfold VI fnE
  have e0 : (Sl.io c :: ds.map Sl.val) ++ List.replicate (N - (Sl.io c :: ds.map Sl.val).length) .no = .io c :: (ds.map Sl.val ++ List.replicate (N - (ds.length + 1)) .no) := by simp
  rw [e0]
  obtain ⟨fl, ρ, s', h1, rfl, c', ρ1, rfl, h3, h4⟩ := ok_iff.mp h
  rw [h1]
  show Ok (finE _ (.v .non) _ s') _
  have e : ioF (.io c :: ds.map Sl.val) (.io c' :: ρ1) = some (.io c' :: ds.map fun _ => Sl.no) := by
    show (ioF (ds.map Sl.val) ρ1).map (Sl.io c' :: ·) = _
    rw [ioF_val h3]
    rfl
  unfold finE
  rw [e]
  exact ⟨rfl, c', rfl, h4⟩
theorem ok_make {k : Nat} {cn : Str} {ds : List D} (hk : k = ds.length + 1) (h : VI f (.ins cn [] []) ds s fun c' s' => Q (.f c') ρ s') : Ok (gMake k cn f (ds.map E.v) ρ s) Q := by
  unfold gMake
  rw [if_pos (by simp [hk]), ok_bind]
  unfold gCallR
  have e1 : mapO (slE ρ) (E.f (.ins cn [] []) :: ds.map E.v) = some (.io (.ins cn [] []) :: ds.map Sl.val) := by
    have := slE_vals (ρ := ρ) ds
    simp [mapO, slE, this]
  rw [e1]
  dsimp only
  have e3 : oneL (E.f (.ins cn [] []) :: ds.map E.v) = true := oneL_vals ds
  rw [if_pos e3]
  unfold VI at h
  obtain ⟨e, as, s', h1, rfl, c', rfl, h2⟩ := ok_iff.mp h
  rw [h1]
  have e2 : backS (E.f (.ins cn [] []) :: ds.map E.v) (.io c' :: ds.map fun _ => Sl.no) ρ = some ρ := backS_vals ds
  rw [afterC_ok e2]
  exact h2
def conWSl (o : Option Cl) : Option Cl := o
@[simp] theorem conW_l {j : Nat} : conW (.l j) ρ s = conSl ρ[j]? := con_l (s := s)
@[simp] theorem conSl_io : conSl (some (.io c)) = some c := rfl
def sfR (cs : List Str) (x : Str) (d : D) (i : Nat) (ρ : List Sl) (s : List Cl) : Cl → R Fl
  | .ins c ns vs => grdR (cs.contains c = true ∧ ns.length < 1000) (.ok .nx (ρ.set i (.io (.ins c ((putN x d (ns.zip vs)).map (·.1)) ((putN x d (ns.zip vs)).map (·.2))))) s)
  | _ => .no
theorem setFld_l {cs : List Str} {x : Str} {i : Nat} (h : ρ[i]? = some (.io c)) : setFld cs x d (.l i) ρ s = sfR cs x d i ρ s c := by
  unfold setFld
  rw [conW_l, h, conSl_io]
  cases c with
  | ins c ns vs =>
    unfold setFldC sfR grdR
    dsimp only
    split
    · rw [bind_eq]
      have : setCon (.l i) (.ins c ((putN x d (ns.zip vs)).map (·.1)) ((putN x d (ns.zip vs)).map (·.2))) ρ s = .ok () (ρ.set i (.io (.ins c ((putN x d (ns.zip vs)).map (·.1)) ((putN x d (ns.zip vs)).map (·.2))))) s := by
        unfold setCon
        dsimp only
        rw [h]
      rw [this]
      rfl
    · rfl
  | _ => rfl
@[simp ↓] theorem ok_sFldD {cs : List Str} {x : Str} : Ok (sFldD cs x fd f ρ s) QF ↔ Ok (fd ρ s) fun d ρ s => Ok (f ρ s) fun o ρ s => Ok (setFld cs x d o ρ s) QF := by
  unfold sFldD
  rw [ok_bind]
  exact ok_fun fun _ _ _ => ok_bind
/-- a dict comprehension: whatever comes -/
theorem ok_dcD {vs : List Nat} {k : E → M Unit} {QK : List (Key × D) → List Sl → List Cl → Prop} (hl : xs.length ≤ sizeLine) (hstep : ∀ d ∈ xs, Ok (k (.v d) ρ s) fun _ ρ1 s1 => Ok (t ρ1 s1) fun b ρ2 s2 => b = true ∧ Ok (fk ρ2 s2) fun y ρ3 s3 => (keyD y).isSome = true ∧ Ok (fd ρ3 s3) fun u ρ4 s4 => clr vs ρ4 = ρ ∧ s4 = s) (q : ∀ acc, acc.length ≤ xs.length → QK acc ρ s) :
    ∀ (ys done : List D) (acc : List (Key × D)), xs = done ++ ys → acc.length ≤ done.length → Ok (dcD vs k t fk fd ys acc ρ s) QK
  | [], done, acc, e, ha => by
    rw [List.append_nil] at e
    subst e
    exact q acc ha
  | y :: ys, done, acc, e, ha => by
    unfold dcD
    rw [ok_bind]
    refine (hstep y (by rw [e]; simp)).mono fun _ ρ1 s1 q1 => ?_
    rw [ok_bind]
    refine q1.mono fun b ρ2 s2 ⟨hb, q2⟩ => ?_
    subst hb
    rw [if_pos rfl, ok_bind]
    refine q2.mono fun z ρ3 s3 ⟨hz, q3⟩ => ?_
    rw [ok_bind]
    refine q3.mono fun u ρ4 s4 ⟨h4, h5⟩ => ?_
    rw [ok_bind]
    show Ok ((match keyD z with | some kk => if acc.length < sizeLine then dcD vs k t fk fd ys (putG acc kk u) else M.no | none => M.no) (clr vs ρ4) s4) QK
    rw [h4, h5]
    obtain ⟨kk, hk⟩ := Option.isSome_iff_exists.mp hz
    rw [hk]
    have e' : xs.length = done.length + (ys.length + 1) := by rw [e]; simp
    dsimp only
    rw [if_pos (by omega)]
    refine ok_dcD hl hstep q ys (done ++ [y]) _ (by rw [e]; simp) ?_
    have : (putG acc kk u).length ≤ acc.length + 1 := by
      unfold putG
      split <;> simp
    rw [List.length_append, List.length_singleton]
    omega
@[simp ↓] theorem ok_eDc {vs : List Nat} {k : E → M Unit} : Ok (eDc vs fl k t fk fd ρ s) Q ↔ Ok (fl ρ s) fun xs ρ s => Ok (dcD vs k t fk fd xs [] (clr vs ρ) s) fun acc ρ' s' => Q (.f (dkOf acc)) (resto ρ vs ρ') s' := by
  unfold eDc
  rw [ok_bind]
  refine ok_fun fun xs ρ s => ?_
  show Ok (lcR vs ρ dkOf (dcD vs k t fk fd xs [] (clr vs ρ) s)) Q ↔ _
  cases dcD vs k t fk fd xs [] (clr vs ρ) s <;> exact Iff.rfl
end
end DP
set_option Elab.async false
set_option linter.all false
set_option maxRecDepth 100000
set_option maxHeartbeats 4000000
/-! DP8: what raises. -/
namespace DP
open PySem L2 DL
/-- it raises c with v as given; P holds of the slots then -/
def Xc {α : Type} (r : R α) (c : Str) (v : D) (P : List Sl → Prop) (s : List Cl) : Prop := ∃ ρ, r = .ex c ["given"] [v] ρ s ∧ P ρ
def X1 (f : M E) (ds : List D) (s : List Cl) (c : Str) (v : D) : Prop := f (ds.map Sl.val) s = .ex c ["given"] [v] (ds.map fun _ => Sl.no) s
section
variable {α β : Type} {ρ ρ' : List Sl} {s s' : List Cl} {f : M E} {m : M β} {k : β → M α} {c : Str} {v d : D} {P : List Sl → Prop} {a b : M Fl} {t : M Bool} {fd : M D} {ds : List D}
theorem x_bind1 (h : Ok (m ρ s) fun x ρ1 s1 => Xc (k x ρ1 s1) c v P s') : Xc (M.bind m k ρ s) c v P s' := by
  obtain ⟨x, ρ1, s1, h1, h2⟩ := ok_iff.mp h
  rw [bind_eq, h1]
  exact h2
theorem x_bind2 (h : Xc (m ρ s) c v P s') : Xc (M.bind m k ρ s) c v P s' := by
  obtain ⟨ρ1, h1, h2⟩ := h
  rw [bind_eq, h1]
  exact ⟨ρ1, rfl, h2⟩
theorem x_seq1 (h : Ok (a ρ s) fun fl ρ1 s1 => fl = .nx ∧ Xc (b ρ1 s1) c v P s') : Xc (sSeq a b ρ s) c v P s' := by
  obtain ⟨x, ρ1, s1, h1, rfl, h2⟩ := ok_iff.mp h
  unfold sSeq
  rw [h1]
  exact h2
theorem x_seq2 (h : Xc (a ρ s) c v P s') : Xc (sSeq a b ρ s) c v P s' := by
  obtain ⟨ρ1, h1, h2⟩ := h
  unfold sSeq
  rw [h1]
  exact ⟨ρ1, rfl, h2⟩
theorem x_if (h : Ok (t ρ s) fun b' ρ1 s1 => Xc (condR b' (a ρ1 s1) (b ρ1 s1)) c v P s') : Xc (sIf t a b ρ s) c v P s' :=
  x_bind1 (h.mono fun x ρ1 s1 q => by rw [m_cond]; exact q)
theorem x_raise (h : Ok (fd ρ s) fun x ρ1 s1 => x = v ∧ P ρ1 ∧ s1 = s') : Xc (sRaise c "given" fd ρ s) c v P s' :=
  x_bind1 (h.mono fun x ρ1 s1 ⟨h1, h2, h3⟩ => ⟨ρ1, by rw [h1, h3], h2⟩)
theorem x_drop (h : Xc (f ρ s) c v P s') : Xc (sDrop f ρ s) c v P s' := x_bind2 h
theorem x_ret (h : Xc (f ρ s) c v P s') : Xc (sRet f ρ s) c v P s' := x_bind2 h
theorem x_asg {g : E → M Unit} (h : Xc (f ρ s) c v P s') : Xc (sAsg f g ρ s) c v P s' := x_bind2 h
theorem x_fn {N : Nat} (h : Xc (b (ds.map Sl.val ++ List.replicate (N - ds.length) .no) s) c v (fun ρ => ds.length ≤ ρ.length) s) : X1 (fnE N b) ds s c v := by
  obtain ⟨ρ1, h1, h2⟩ := h
  unfold X1 fnE
  rw [List.length_map, h1]
  show (match ioF (ds.map Sl.val) ρ1 with | some as' => R.ex c ["given"] [v] as' s | none => .no) = _
  rw [ioF_val h2]
theorem x_call (ds : List D) (h : X1 f ds s c v) (hn : P ρ) : Xc (gCall ds.length f (ds.map E.v) ρ s) c v P s := by
  unfold gCall
  rw [if_pos (by simp), bind_eq]
  unfold gCallR
  rw [slE_vals]
  dsimp only
  rw [if_pos (oneL_vals ds), show f (ds.map Sl.val) s = _ from h, afterC_ex (backS_vals ds)]
  exact ⟨ρ, rfl, hn⟩
theorem x_meth {k : Nat} {cn m : Str} {fm : M E} {fe : M (List E)} {ns : List Str} {vs ds : List D} (hn : ns.contains m = false) (hk : k = ds.length + 1) (h : X1 fm (.ins cn ns vs :: ds) s c v) (hfe : fe ρ s = .ok (ds.map E.v) ρ s) (hl : P ρ) : Xc (gMeth k cn m fm fe (.v (.ins cn ns vs)) ρ s) c v P s := by
  have e : gMeth k cn m fm fe (.v (.ins cn ns vs)) ρ s = if cn = cn ∧ ns.contains m = false then M.bind fe (fun es => gCall k fm (.v (.ins cn ns vs) :: es)) ρ s else .no := rfl
  rw [e, if_pos ⟨rfl, hn⟩, bind_eq, hfe]
  subst hk
  exact x_call (.ins cn ns vs :: ds) h hl
end
section
variable {ρ ρ' : List Sl} {s s' : List Cl} {QF : Fl → List Sl → List Cl → Prop} {QE : List E → List Sl → List Cl → Prop} {a : M Fl} {c : Str} {v : D} {n : Nat} {xs : List Str} {hs : List HR}
/-- a try whose suite raises nothing -/
theorem ok_try (h : Ok (a ρ s) QF) : Ok (sTry xs a hs ρ s) QF := by
  obtain ⟨x, ρ1, s1, h1, h2⟩ := ok_iff.mp h
  unfold sTry
  rw [h1]
  exact h2
theorem ok_tryX {ρ1 : List Sl} (h : a ρ s = .ex c ["given"] [v] ρ1 s') (hc : xs.contains c = true) (q : Ok (goH xs c ["given"] [v] hs ρ1 s') QF) : Ok (sTry xs a hs ρ s) QF := by
  unfold sTry
  rw [h]
  show Ok (if xs.contains c = true then _ else _) QF
  rw [if_pos hc]
  exact q
theorem pickM_ok {ix : List Nat} {m : Nat} {es : List E} (h : es.all noF = true ∧ es.length = m) : pickM ix m es ρ s = .ok (pick ix es) ρ s := by
  unfold pickM
  rw [if_pos h]
  rfl
end
section
variable {ρ ρ' : List Sl} {s s' : List Cl} {QF : Fl → List Sl → List Cl → Prop} {f : M Fl} {io : Option Nat}
theorem ok_hd (h0 : okSl io ρ = true) (h : Ok (f ρ s) fun fl ρ1 s1 => (okSl io ρ1 = true ∧ noLF fl = true) ∧ QF fl ρ1 s1) : Ok (hdRun io f ρ s) QF := by
  obtain ⟨fl, ρ1, s1, h1, h2, h3⟩ := ok_iff.mp h
  unfold hdRun
  rw [if_pos h0, h1]
  dsimp only
  rw [if_pos h2]
  exact h3
theorem x_eIf {α : Type} {t : M Bool} {a b : M E} {c : Str} {v : D} {P : List Sl → Prop} (h : Ok (t ρ s) fun b' ρ1 s1 => Xc (condR b' (a ρ1 s1) (b ρ1 s1)) c v P s') : Xc (eIf t a b ρ s) c v P s' :=
  x_bind1 (h.mono fun x ρ1 s1 q => by rw [m_cond]; exact q)
theorem x_eFz {a : M E} {c : Str} {v : D} {P : List Sl → Prop} (h : Xc (a ρ s) c v P s') : Xc (eFz a ρ s) c v P s' := x_bind2 (x_bind2 h)
end
end DP
set_option Elab.async false
set_option linter.all false
set_option maxRecDepth 100000
set_option maxHeartbeats 4000000
/-! DP9: sizes of ints, slots that may be written. -/
namespace DP
open PySem L2 DL
def Sz (k : Nat) (i : Int) : Prop := i.natAbs < 2 ^ k
theorem Sz.mono {a b : Nat} {i : Int} (h : Sz a i) (hb : a ≤ b) : Sz b i := Nat.lt_of_lt_of_le h (Nat.pow_le_pow_right (by decide) hb)
theorem Sz.mul {a b : Nat} {i j : Int} (h : Sz a i) (h' : Sz b j) : Sz (a + b) (i * j) := by
  unfold Sz at *
  rw [Int.natAbs_mul, Nat.pow_add]
  exact Nat.mul_lt_mul'' h h'
theorem Sz.add {a : Nat} {i j : Int} (h : Sz a i) (h' : Sz a j) : Sz (a + 1) (i + j) := by
  unfold Sz at *
  have := Int.natAbs_add_le i j
  rw [Nat.pow_succ]
  omega
theorem Sz.neg {a : Nat} {i : Int} (h : Sz a i) : Sz a (-i) := by
  unfold Sz at *
  rw [Int.natAbs_neg]
  exact h
theorem Sz.mulW {a b : Nat} {i j : Int} (h : Sz a i) (h' : Sz b j) (ha : a ≤ 400000) (hb : b ≤ 400000) : tMulW i j = true := by
  unfold tMulW
  have h1 : i.natAbs.log2 < 400001 := by
    by_cases z : i.natAbs = 0
    · rw [z]; decide
    · exact Nat.lt_of_lt_of_le ((Nat.log2_lt z).mpr (h.mono (Nat.le_succ_of_le ha) : Sz 400001 i)) (Nat.le_refl _)
  have h2 : j.natAbs.log2 < 400001 := by
    by_cases z : j.natAbs = 0
    · rw [z]; decide
    · exact Nat.lt_of_lt_of_le ((Nat.log2_lt z).mpr (h'.mono (Nat.le_succ_of_le hb) : Sz 400001 j)) (Nat.le_refl _)
  exact decide_eq_true (by omega)
theorem Sz.of64 {i : Int} (h : -18446744073709551616 < i) (h2 : i < 18446744073709551616) : Sz 64 i := by
  unfold Sz
  omega
/-- a slot that may be written -/
def Fr (x : Sl) : Prop := ∀ c, x ≠ .io c
@[simp] theorem Fr.no : Fr .no := fun c h => by cases h
@[simp] theorem Fr.val {d : D} : Fr (.val d) := fun c h => by cases h
@[simp] theorem Fr.own {c : Cl} : Fr (.own c) := fun c h => by cases h
theorem putSl_fr {i : Nat} {x y : Sl} {ρ : List Sl} {s : List Cl} (h : Fr x) : putSl i y ρ s x = .ok () (ρ.set i y) s := by
  cases x with
  | io c => exact absurd rfl (h c)
  | _ => rfl
theorem keepSl_or {x : Sl} : ∃ y, keepSl (some x) = y ∧ Fr y := by
  cases x <;> exact ⟨_, rfl, by simp⟩
@[simp] theorem keep_fr {o : Option Sl} : Fr (keepSl o) := by
  unfold keepSl
  split <;> simp
end DP
set_option Elab.async false
set_option linter.all false
set_option maxRecDepth 100000
set_option maxHeartbeats 4000000
/-! DP10: equality of data. -/
namespace DP
open PySem L2 DL
section
variable {ρ : List Sl} {s : List Cl} {Q : E → List Sl → List Cl → Prop} {a b : E} {xs ys : List D}
def bEq (neg : Bool) (p q : PyData) : Bool := if neg then !PyData.eqv p q else PyData.eqv p q
/-- both have data -/
theorem eqn_data {neg : Bool} {p q : PyData} (h1 : ∀ i, a = .v (.int i) → False) (h2 : ∀ i, a = .v (.str i) → False) (ha : pyE a ρ s = some p) (hb : pyE b ρ s = some q) (hs : SeqAt.shaped p = true) (hs' : SeqAt.shaped q = true) :
    gEqn neg a b ρ s = .ok (.v (.bl (bEq neg p q))) ρ s := by
  have other : (match pyE a ρ s, pyE b ρ s with
    | some p, some q => if SeqAt.shaped p = true ∧ SeqAt.shaped q = true then R.ok (E.v (.bl (if neg then !PyData.eqv p q else PyData.eqv p q))) ρ s else .no
    | _, _ => .no) = .ok (.v (.bl (bEq neg p q))) ρ s := by
    rw [ha, hb]
    dsimp only
    rw [if_pos ⟨hs, hs'⟩]
    rfl
  cases a with
  | v d =>
    cases d with
    | int i => exact (h1 i rfl).elim
    | str i => exact (h2 i rfl).elim
    | _ => exact other
  | l i => exact other
  | f c => exact other
@[simp ↓] theorem eq_bl {x y : Bool} : Ok (gEqn false (.v (.bl x)) (.v (.bl y)) ρ s) Q ↔ Q (.v (.bl (x == y))) ρ s := by
  rw [eqn_data (p := .bool x) (q := .bool y) (fun i h => by cases h) (fun i h => by cases h) rfl rfl rfl rfl]
  cases x <;> cases y <;> simp [bEq, PyData.eqv]
theorem py_ints {n : Nat} : ∀ (ns : List Int), mapO (pyD s (n + 1)) (ns.map D.int) = some (ns.map PyData.int)
  | [] => rfl
  | i :: ns => by
    rw [List.map_cons]
    unfold mapO
    rw [py_ints ns]
    rfl
theorem py_strs {n : Nat} : ∀ (ns : List Str), mapO (pyD s (n + 1)) (ns.map D.str) = some (ns.map PyData.str)
  | [] => rfl
  | i :: ns => by
    rw [List.map_cons]
    unfold mapO
    rw [py_strs ns]
    rfl
theorem lay_ints : ∀ (ns : List Int), PyData.canLayAll0 (ns.map PyData.int) = true
  | [] => by simp [PyData.canLayAll0]
  | i :: ns => by simp [PyData.canLayAll0, PyData.canLay0, lay_ints ns]
theorem dep_ints : ∀ (ns : List Int), PyData.depthAll (ns.map PyData.int) = 0
  | [] => by simp [PyData.depthAll]
  | i :: ns => by simp [PyData.depthAll, PyData.depth, dep_ints ns]
theorem lay_strs : ∀ (ns : List Str), (∀ x ∈ ns, PyData.strOk x = true) → PyData.canLayAll0 (ns.map PyData.str) = true
  | [], _ => by simp [PyData.canLayAll0]
  | i :: ns, h => by simp [PyData.canLayAll0, PyData.canLay0, lay_strs ns fun x hx => h x (List.mem_cons_of_mem _ hx), h i List.mem_cons_self]
theorem dep_strs : ∀ (ns : List Str), PyData.depthAll (ns.map PyData.str) = 0
  | [] => by simp [PyData.depthAll]
  | i :: ns => by simp [PyData.depthAll, PyData.depth, dep_strs ns]
theorem shaped_tints {ns : List Int} : SeqAt.shaped (.tuple (ns.map PyData.int)) = true := by
  unfold SeqAt.shaped
  simp [PyData.canLay0, PyData.depth, lay_ints, dep_ints]
theorem shaped_lints {ns : List Int} : SeqAt.shaped (.list (ns.map PyData.int)) = true := by
  unfold SeqAt.shaped
  simp [PyData.canLay0, PyData.depth, lay_ints, dep_ints]
theorem shaped_lstrs {ns : List Str} (h : ∀ x ∈ ns, PyData.strOk x = true) : SeqAt.shaped (.list (ns.map PyData.str)) = true := by
  unfold SeqAt.shaped
  simp [PyData.canLay0, PyData.depth, lay_strs ns h, dep_strs]
theorem eqv_same {p : PyData} (h : SeqAt.shaped p = true) : PyData.eqv p p = true := SeqAt.eqv_refl p (SeqAt.canLay_of_shaped h)
/-- a tuple of ints is itself -/
theorem eq_tints {ns : List Int} : gEqn false (.v (.tup (ns.map D.int))) (.v (.tup (ns.map D.int))) ρ s = .ok (.v (.bl true)) ρ s := by
  have e : pyE (.v (.tup (ns.map D.int))) ρ s = some (.tuple (ns.map PyData.int)) := by
    show (mapO (pyD s 11) (ns.map D.int)).map PyData.tuple = _
    rw [py_ints]
    rfl
  rw [eqn_data (fun i h => by cases h) (fun i h => by cases h) e e shaped_tints shaped_tints]
  simp [bEq, eqv_same shaped_tints]
theorem eq_lstrs {ns : List Str} (h : ∀ x ∈ ns, PyData.strOk x = true) : gEqn false (.f (.lst (ns.map D.str))) (.v (.lst (ns.map D.str))) ρ s = .ok (.v (.bl true)) ρ s := by
  have e : pyE (.v (.lst (ns.map D.str))) ρ s = some (.list (ns.map PyData.str)) := by
    show (mapO (pyD s 11) (ns.map D.str)).map PyData.list = _
    rw [py_strs]
    rfl
  have e' : pyE (.f (.lst (ns.map D.str))) ρ s = some (.list (ns.map PyData.str)) := by
    show (mapO (pyD s 12) (ns.map D.str)).map PyData.list = _
    rw [py_strs]
    rfl
  rw [eqn_data (fun i h => by cases h) (fun i h => by cases h) e' e (shaped_lstrs h) (shaped_lstrs h)]
  simp [bEq, eqv_same (shaped_lstrs h)]
/-- a list of ints against the empty list -/
theorem ne_lints {ns : List Int} : gEqn true (.f (.lst (ns.map D.int))) (.f (.lst [])) ρ s = .ok (.v (.bl (!ns.isEmpty))) ρ s := by
  have e' : pyE (.f (.lst (ns.map D.int))) ρ s = some (.list (ns.map PyData.int)) := by
    show (mapO (pyD s 12) (ns.map D.int)).map PyData.list = _
    rw [py_ints]
    rfl
  have e2 : pyE (.f (.lst [])) ρ s = some (.list []) := rfl
  rw [eqn_data (fun i h => by cases h) (fun i h => by cases h) e' e2 shaped_lints (shaped_lints (ns := []))]
  cases ns <;> simp [bEq, PyData.eqv, PyData.eqvAll]
/-- == [] -/
theorem con_lst {d : D} : con (.v (.lst xs)) ρ s = some (.lst xs) := rfl
theorem eqZ_nil {a : E} {xs : List D} (h : con a ρ s = some (.lst xs)) (hn : ∀ d, a = .v d → d = .lst xs) : gEqZ a (.f (.lst [])) ρ s = .ok (.v (.bl xs.isEmpty)) ρ s := by
  unfold gEqZ lenNe
  rw [h]
  have h2 : con (.f (.lst [])) ρ s = some (.lst []) := rfl
  rw [h2]
  dsimp only
  cases xs with
  | cons x xs => simp
  | nil =>
    have e2 : pyE (.f (.lst [])) ρ s = some (.list []) := rfl
    have e1 : pyE a ρ s = some (.list []) := by
      cases a with
      | v d => rw [hn d rfl]; rfl
      | l i =>
        show (match con (.l i) ρ s with | some (.lst xs) => (mapO (pyD s 12) xs).map PyData.list | _ => none) = _
        rw [h]
        rfl
      | f c =>
        show (match con (.f c) ρ s with | some (.lst xs) => (mapO (pyD s 12) xs).map PyData.list | _ => none) = _
        rw [h]
        rfl
    have := eqn_data (neg := false) (a := a) (fun i q => by have := hn _ q; cases this) (fun i q => by have := hn _ q; cases this) e1 e2 (shaped_lints (ns := [])) (shaped_lints (ns := []))
    simp [bEq, PyData.eqv, PyData.eqvAll] at this
    simpa using this
end
end DP
set_option Elab.async false
set_option linter.all false
set_option maxRecDepth 100000
set_option maxHeartbeats 4000000
/-! DP11: texts; a list without doubles in a shorter one. -/
namespace DP
open PySem PySem.Spec PyProof.Rows L2 DL TL
theorem tl_slice (x : Str) (lo hi : Option Int) : tl (Txt.slice x lo hi) = ((tl x).drop (HT.sIx x.length 0 lo)).take (HT.sIx x.length x.length hi - HT.sIx x.length 0 lo) := by
  have hb : HT.sIx x.length x.length hi ≤ x.length := HT.sIx_le _ _ (Nat.le_refl _) _
  have hlen := len_tl x
  have ha : HT.sIx x.length 0 lo ≤ x.length := HT.sIx_le _ _ (Nat.zero_le _) _
  unfold Txt.slice
  rw [sidx]
  split
  · rename_i h
    have h : HT.sIx x.length x.length hi - HT.sIx x.length 0 lo = x.length := by simpa using h
    have h0 : HT.sIx x.length 0 lo = 0 := by omega
    rw [h, h0, List.drop_zero, List.take_of_length_le (by omega)]
  · rw [tl_mk, List.filterMap_map]
    have := pick_run x.cps (HT.sIx x.length 0 lo) (HT.sIx x.length x.length hi - HT.sIx x.length 0 lo)
    rw [List.filterMap_map] at this
    exact this
theorem joinL_nil : ∀ (l : List (List Nat)), joinL [] l = l.flatten
  | [] => rfl
  | [p] => by simp [joinL]
  | p :: q :: r => by
    have := joinL_nil (q :: r)
    show p ++ ([] ++ joinL [] (q :: r)) = _
    rw [this]
    simp
theorem tl_join0 {e : Str} (he : tl e = []) (zs : List Str) : tl (Txt.join e zs) = (zs.map tl).flatten := by
  rw [TL.join_eq, tl_join, he, joinL_nil]
theorem no_room {α : Type} [DecidableEq α] : ∀ (xs L : List α), xs.Nodup → (∀ x ∈ xs, x ∈ L) → xs.length ≤ L.length
  | [], L, _, _ => Nat.zero_le _
  | x :: xs, L, hn, h => by
    have hx := h x List.mem_cons_self
    have hn' := List.nodup_cons.mp hn
    have := no_room xs (L.erase x) hn'.2 fun y hy => by
      have hne : y ≠ x := fun e => hn'.1 (e ▸ hy)
      exact (List.mem_erase_of_ne hne).mpr (h y (List.mem_cons_of_mem _ hy))
    rw [List.length_erase_of_mem hx] at this
    have hp : 0 < L.length := List.length_pos_of_mem hx
    rw [List.length_cons]
    omega
theorem some_out {α : Type} [DecidableEq α] {xs L : List α} (hn : xs.Nodup) (h : L.length < xs.length) : ∃ x ∈ xs, x ∉ L := by
  rcases Classical.em (∃ x ∈ xs, x ∉ L) with q | q
  · exact q
  · exfalso
    have := no_room xs L hn fun x hx => Classical.byContradiction fun hc => q ⟨x, hx, hc⟩
    omega
section
variable {ρ : List Sl} {s : List Cl} {Q : E → List Sl → List Cl → Prop} {xs : List D}
@[simp ↓] theorem ix_str {x : Str} {i : Int} : gIx (.v (.str x)) (.v (.int i)) ρ s = grdR (x.length ≤ sizeLine) (optR ((atI x.cps.toList i).map fun c => D.str ⟨#[c]⟩) (okV ρ s)) := by
  show (if x.length ≤ sizeLine then match atI x.cps.toList i with | some c => R.ok (E.v (.str ⟨#[c]⟩)) ρ s | none => .no else .no) = _
  unfold grdR
  split
  · cases atI x.cps.toList i <;> rfl
  · rfl
/-- a list of texts against the empty list -/
theorem ne_lstrs {e : E} {ns : List Str} (hn : ∀ d, e = .v d → d = .lst (ns.map D.str)) (h : con e ρ s = some (.lst (ns.map D.str))) (hs : ∀ x ∈ ns, PyData.strOk x = true) : gEqn true e (.f (.lst [])) ρ s = .ok (.v (.bl (!ns.isEmpty))) ρ s := by
  have e2 : pyE (.f (.lst [])) ρ s = some (.list []) := rfl
  have e1 : pyE e ρ s = some (.list (ns.map PyData.str)) := by
    cases e with
    | v d =>
      rw [hn d rfl]
      show (mapO (pyD s 11) (ns.map D.str)).map PyData.list = _
      rw [py_strs]
      rfl
    | l i =>
      show (match con (.l i) ρ s with | some (.lst xs) => (mapO (pyD s 12) xs).map PyData.list | _ => none) = _
      rw [h]
      dsimp only
      rw [py_strs]
      rfl
    | f c =>
      show (match con (.f c) ρ s with | some (.lst xs) => (mapO (pyD s 12) xs).map PyData.list | _ => none) = _
      rw [h]
      dsimp only
      rw [py_strs]
      rfl
  rw [eqn_data (fun i q => by have := hn _ q; cases this) (fun i q => by have := hn _ q; cases this) e1 e2 (shaped_lstrs hs) (shaped_lints (ns := []))]
  cases ns <;> simp [bEq, PyData.eqv, PyData.eqvAll]
end
end DP
set_option Elab.async false
set_option linter.all false
set_option maxRecDepth 100000
set_option maxHeartbeats 4000000
/-! DP12: module dicts, starred displays, two sources, things changed. -/
namespace DP
open PySem L2 DL
section
variable {ρ ρ' : List Sl} {s s' : List Cl} {Q : E → List Sl → List Cl → Prop} {QU : Unit → List Sl → List Cl → Prop} {QF : Fl → List Sl → List Cl → Prop} {QL : List D → List Sl → List Cl → Prop} {f g : M E} {n i : Nat} {d a b : D} {xs ys : List D} {e : E} {fl fi1 : M (List D)} {fe : M (List E)} {t t1 : M Bool} {fd fk : M D} {c c' : Cl} {k k1 : E → M Unit} {vs vs1 : List Nat}
@[simp ↓] theorem ok_aStar : Ok (aStar f fl ρ s) QL ↔ Ok (f ρ s) fun e ρ s => Ok (starE e ρ s) fun ds ρ s => Ok (fl ρ s) fun rs ρ s => QL (ds ++ rs) ρ s := by
  unfold aStar
  rw [ok_bind]
  refine ok_fun fun _ _ _ => ?_
  rw [ok_bind]
  refine ok_fun fun _ _ _ => ?_
  rw [ok_bind]
  exact ok_fun fun _ _ _ => Iff.rfl
@[simp ↓] theorem star_tup : starE (.v (.tup xs)) ρ s = .ok xs ρ s := rfl
@[simp ↓] theorem itK_str {kvs : List (Str × Str)} {z : Str} : gItK kvs (.v (.str z)) ρ s = optR (kvs.lookup z) fun y => okV ρ s (.str y) := by
  show ixO (kvs.lookup z) ρ s = _
  cases kvs.lookup z <;> rfl
@[simp ↓] theorem ok_eLc2 : Ok (eLc2 vs vs1 fl k t fi1 k1 t1 fd ρ s) Q ↔ Ok (fl ρ s) fun xs ρ s => Ok (lcD2 vs vs1 k t fi1 k1 t1 fd xs [] (clr vs ρ) s) fun acc ρ' s' => Q (.f (.lst acc)) (resto ρ vs ρ') s' := by
  unfold eLc2
  rw [ok_bind]
  suffices h : ∀ xs ρ s, Ok (lcR vs ρ Cl.lst (M.bind (clrM vs) (fun _ => lcD2 vs vs1 k t fi1 k1 t1 fd xs []) ρ s)) Q ↔ Ok (lcD2 vs vs1 k t fi1 k1 t1 fd xs [] (clr vs ρ) s) fun acc ρ' s' => Q (.f (.lst acc)) (resto ρ vs ρ') s' by
    exact ok_fun h
  intro xs ρ s
  show Ok (lcR vs ρ Cl.lst (lcD2 vs vs1 k t fi1 k1 t1 fd xs [] (clr vs ρ) s)) Q ↔ _
  cases lcD2 vs vs1 k t fi1 k1 t1 fd xs [] (clr vs ρ) s <;> exact Iff.rfl
theorem ok_lcYa (y : D → D) {acc0 : List D} (hlen : acc0.length + xs.length ≤ sizeLine) (h : ∀ d ∈ xs, Ok (k (.v d) ρ s) fun _ ρ1 s1 => Ok (fd ρ1 s1) fun y' ρ3 s3 => y' = y d ∧ clr vs ρ3 = ρ ∧ s3 = s) (q : QL (acc0 ++ xs.map y) ρ s) : Ok (lcD vs k tYesD fd xs acc0 ρ s) QL := by
  refine ok_lcD (fun acc rest ρ1 s1 => ρ1 = ρ ∧ s1 = s ∧ (∃ done, xs = done ++ rest ∧ acc = acc0 ++ done.map y)) ?_ ?_ xs acc0 ρ s ⟨rfl, rfl, [], rfl, by simp⟩
  · rintro d rest acc ρ1 s1 ⟨rfl, rfl, done, e1, e2⟩
    have hl : acc.length < sizeLine := by
      have h2 : xs.length = done.length + (rest.length + 1) := by rw [e1]; simp
      rw [e2, List.length_append, List.length_map]
      omega
    refine (h d (by rw [e1]; simp)).mono fun _ ρ2 s2 q2 => ?_
    rw [ok_yes, if_pos rfl]
    exact q2.mono fun y' ρ4 s4 ⟨q5, q6, q7⟩ => ⟨hl, q6, q7, done ++ [d], by rw [e1]; simp, by rw [e2, q5]; simp⟩
  · rintro acc ρ1 s1 ⟨rfl, rfl, done, e1, e2⟩
    rw [List.append_nil] at e1
    subst e1
    rw [e2]
    exact q
theorem ok_lc2Y (Y : D → List D) : ∀ (xs acc : List D), acc.length + (xs.flatMap Y).length ≤ sizeLine → (∀ d ∈ xs, Ok (k (.v d) ρ s) fun _ ρ1 s1 => Ok (fi1 ρ1 s1) fun ys ρ2 s2 => ∀ acc : List D, acc.length + (Y d).length ≤ sizeLine → Ok (lcD vs1 k1 t1 fd ys acc (clr vs1 ρ2) s2) fun acc' ρ3 s3 => acc' = acc ++ Y d ∧ clr vs ρ3 = ρ ∧ s3 = s) →
    QL (acc ++ xs.flatMap Y) ρ s → Ok (lcD2 vs vs1 k tYesD fi1 k1 t1 fd xs acc ρ s) QL
  | [], acc, _, _, q => by
    rw [List.flatMap_nil, List.append_nil] at q
    exact q
  | d :: xs, acc, hl, h, q => by
    rw [List.flatMap_cons] at hl q
    rw [List.length_append] at hl
    unfold lcD2
    rw [ok_bind]
    refine (h d List.mem_cons_self).mono fun _ ρ1 s1 q1 => ?_
    rw [ok_bind, ok_yes, if_pos rfl, ok_bind]
    refine q1.mono fun ys ρ2 s2 q2 => ?_
    rw [ok_bind]
    show Ok (M.bind (lcD vs1 k1 t1 fd ys acc) _ (clr vs1 ρ2) s2) QL
    rw [ok_bind]
    refine (q2 acc (by omega)).mono fun acc' ρ3 s3 ⟨e1, e2, e3⟩ => ?_
    rw [ok_bind]
    show Ok (lcD2 vs vs1 k tYesD fi1 k1 t1 fd xs acc' (clr vs ρ3) s3) QL
    rw [e1, e2, e3]
    refine ok_lc2Y Y xs (acc ++ Y d) (by rw [List.length_append]; omega) (fun d hd => h d (List.mem_cons_of_mem _ hd)) ?_
    rw [List.append_assoc]
    exact q
@[simp ↓] theorem ok_eDisp {ks : List Str} {fds : List (M D)} : Ok (eDisp ks fds ρ s) Q ↔ Ok (aL fds ρ s) fun ds ρ' s' => Q (.f (.dk (kS ks) ds)) ρ' s' := by
  unfold eDisp
  rw [bind_eq]
  cases aL fds ρ s <;> exact Iff.rfl
@[simp ↓] theorem ok_aL0 : Ok (aL [] ρ s) QL ↔ QL [] ρ s := Iff.rfl
@[simp ↓] theorem ok_aL1 {fds : List (M D)} : Ok (aL (fd :: fds) ρ s) QL ↔ Ok (fd ρ s) fun d ρ s => Ok (aL fds ρ s) fun ds ρ s => QL (d :: ds) ρ s := ok_aCons
/-! things changed -/
theorem chg_l (h : ρ[i]? = some (.own c)) : chg (.l i) c' d ρ s = .ok (.v d) (ρ.set i (.own c')) s := by
  unfold chg
  rw [bind_eq]
  have : setCon (.l i) c' ρ s = .ok () (ρ.set i (.own c')) s := by
    unfold setCon
    dsimp only
    rw [h]
  rw [this]
  rfl
theorem chg_ref (h : s[n]? = some c) : chg (.v (.ref n)) c' d ρ s = .ok (.v d) ρ (s.set n c') := by
  unfold chg
  rw [bind_eq]
  have : setCon (.v (.ref n)) c' ρ s = .ok () ρ (s.set n c') := by
    unfold setCon
    dsimp only
    rw [if_pos (List.getElem?_eq_some_iff.mp h).1]
  rw [this]
  rfl
theorem conl_own (h : ρ[i]? = some (.own (.lst xs))) : con (.l i) ρ s = some (.lst xs) := by rw [con_l, h]; rfl
theorem ext_l (h : ρ[i]? = some (.own (.lst xs))) : oExtend (.l i) [.lst ys] ρ s = grdR (xs.length + ys.length ≤ sizeLine) (.ok (.v .non) (ρ.set i (.own (.lst (xs ++ ys)))) s) := by
  unfold oExtend
  rw [conl_own h]
  dsimp only
  unfold grdR
  rw [chg_l h]
theorem ins_l (h : ρ[i]? = some (.own (.lst xs))) (hl : xs.length < sizeLine) : oInsert (.l i) [.int 0, d] ρ s = .ok (.v .non) (ρ.set i (.own (.lst (d :: xs)))) s := by
  unfold oInsert
  rw [conl_own h]
  dsimp only
  rw [if_pos ⟨hl, by omega, by omega⟩, chg_l h]
  rfl
theorem ins_ref (h : s[n]? = some (.lst xs)) (hl : xs.length < sizeLine) : oInsert (.v (.ref n)) [.int 0, d] ρ s = .ok (.v .non) ρ (s.set n (.lst (d :: xs))) := by
  have hc : con (.v (.ref n)) ρ s = some (.lst xs) := h
  unfold oInsert
  rw [hc]
  dsimp only
  rw [if_pos ⟨hl, by omega, by omega⟩, chg_ref h]
  rfl
@[simp ↓] theorem ok_bm0 {T : String} {op : E → List D → M E} : Ok (eBm0 T op f ρ s) Q ↔ Ok (f ρ s) fun o ρ s => tyE T o ρ s = true ∧ Ok (op o [] ρ s) Q := by
  unfold eBm0
  rw [ok_bind]
  refine ok_fun fun o ρ s => ?_
  by_cases h : tyE T o ρ s = true
  · rw [if_pos h]
    exact ⟨fun q => ⟨h, q⟩, fun q => q.2⟩
  · rw [if_neg h]
    exact ⟨fun q => q.elim, fun q => (h q.1).elim⟩
theorem rev_l (h : ρ[i]? = some (.own (.lst xs))) : oReverse (.l i) [] ρ s = .ok (.v .non) (ρ.set i (.own (.lst xs.reverse))) s := by
  unfold oReverse
  rw [conl_own h]
  dsimp only
  rw [chg_l h]
theorem pop_l (h : ρ[i]? = some (.own (.lst xs))) (hx : xs[xs.length - 1]? = some d) : oPop (.l i) [] ρ s = .ok (.v d) (ρ.set i (.own (.lst xs.dropLast))) s := by
  unfold oPop
  rw [conl_own h]
  dsimp only
  rw [hx]
  dsimp only
  rw [chg_l h]
@[simp ↓] theorem ok_sDPut {fo fi : M E} : Ok (sDPutD fd fo fi ρ s) QF ↔ Ok (fd ρ s) fun v ρ s => Ok (fo ρ s) fun o ρ s => Ok (fi ρ s) fun i ρ s => Ok (putDA v o i ρ s) QF := by
  unfold sDPutD
  rw [ok_bind]
  refine ok_fun fun _ _ _ => ?_
  rw [ok_bind]
  refine ok_fun fun _ _ _ => ?_
  rw [ok_bind]
theorem dput_ref {ks : List Key} {x : Str} (h : s[n]? = some (.dk ks xs)) (hl : ks.length < sizeLine) : putDA d (.v (.ref n)) (.v (.str x)) ρ s = .ok .nx ρ (s.set n (.dk ((putG (ks.zip xs) (.inr x) d).map (·.1)) ((putG (ks.zip xs) (.inr x) d).map (·.2)))) := by
  have hc : conW (.v (.ref n)) ρ s = some (.dk ks xs) := h
  unfold putDA
  dsimp only
  rw [hc]
  have hk : setK (some (.dk ks xs)) (.str x) d = some (.dk ((putG (ks.zip xs) (.inr x) d).map (·.1)) ((putG (ks.zip xs) (.inr x) d).map (·.2))) := by
    unfold setK
    dsimp only [kkD]
    rw [if_pos hl]
  rw [hk]
  dsimp only
  rw [bind_eq]
  have : setCon (.v (.ref n)) (.dk ((putG (ks.zip xs) (.inr x) d).map (·.1)) ((putG (ks.zip xs) (.inr x) d).map (·.2))) ρ s = .ok () ρ (s.set n (.dk ((putG (ks.zip xs) (.inr x) d).map (·.1)) ((putG (ks.zip xs) (.inr x) d).map (·.2)))) := by
    unfold setCon
    dsimp only
    rw [if_pos (List.getElem?_eq_some_iff.mp h).1]
  rw [this]
  rfl
/-- == where one side may be a dict -/
theorem eqW_td {zs : List D} {ks : List Key} (h : s[n]? = some (.dk ks xs)) : gEqW (.v (.tup zs)) (.v (.ref n)) ρ s = .ok (.v (.bl false)) ρ s := by
  have : tdE (.v (.tup zs)) (.v (.ref n)) s = true := by
    unfold tdE
    dsimp only
    rw [h]
  unfold gEqW
  rw [if_pos this]
theorem eqW_dd {ks : List Key} (h : s[n]? = some (.dk ks xs)) (h2 : (decide ks.Nodup && xs.all flatD) = true) : gEqW (.v (.ref n)) (.v (.ref n)) ρ s = .ok (.v (.bl true)) ρ s := by
  have h1 : ddE (.v (.ref n)) (.v (.ref n)) s = true := by
    show (n == n && match s[n]? with
      | some (.dk ks ds) => decide ks.Nodup && ds.all flatD
      | _ => false) = true
    rw [h]
    simpa using h2
  have h0 : tdE (.v (.ref n)) (.v (.ref n)) s = false := rfl
  unfold gEqW
  rw [h0, h1]
  rfl
theorem eqW_eq {e1 e2 : E} (h0 : tdE e1 e2 s = false) (h1 : ddE e1 e2 s = false) : gEqW e1 e2 ρ s = gEq e1 e2 ρ s := by
  unfold gEqW
  rw [h0, h1]
  rfl
end
end DP
set_option Elab.async false
set_option linter.all false
set_option maxRecDepth 100000
set_option maxHeartbeats 4000000
/-! DP13: values that are shown and compared: sizes, texts, equality. -/
namespace DP
open PySem L2 DL
theorem small_size {n : Nat} (h : n ≤ 1000000) : n ≤ sizeLine := Nat.le_trans h size_big
theorem atI_nat {α : Type} {xs : List α} {p : Nat} (h : p < xs.length) : atI xs (p : Int) = xs[p]? := by
  unfold atI ixN
  have h1 : ¬ ((p : Int) < 0) := by omega
  have h2 : (p : Int) < (xs.length : Int) := by omega
  simp [h1, h2]
theorem at_mem {α : Type} {xs : List α} {v : Int} (h0 : 0 ≤ v) (h1 : v < xs.length) : ∃ w ∈ xs, atI xs v = some w := by
  obtain ⟨i, rfl⟩ := Int.eq_ofNat_of_zero_le h0
  have hi : i < xs.length := by omega
  exact ⟨xs[i], List.getElem_mem _, by rw [DP.atI_nat hi, List.getElem?_eq_getElem hi]⟩
theorem cutD_mem {xs : List D} {lo hi : Option Int} {x : D} (h : x ∈ cutD xs lo hi) : x ∈ xs := by
  unfold cutD at h
  exact List.mem_of_mem_drop (List.mem_of_mem_take h)
theorem cutD_len {xs : List D} {lo hi : Option Int} : (cutD xs lo hi).length ≤ xs.length := by
  unfold cutD
  rw [List.length_take, List.length_drop]
  omega
theorem at_done {α : Type} {xs done rest : List α} {d : α} (e : xs = done ++ d :: rest) : xs[done.length]? = some d := by
  rw [e, List.getElem?_append_right (Nat.le_refl _), Nat.sub_self]
  rfl
theorem w_r1n {m : Nat} {ρ : List Sl} {s : List Cl} (h : m ≤ 1000) : wR1 [.int (m : Int)] ρ s = .ok ((List.range m).map fun i => D.int (0 + (i : Nat))) ρ s := by
  rw [w_r1]
  unfold grdR
  rw [if_pos ⟨by omega, by omega⟩, Int.toNat_natCast]
/-- the item of a range -/
theorem range_at {m : Nat} {done rest : List D} {d : D} {f : Nat → D} (e : (List.range m).map f = done ++ d :: rest) : done.length < m ∧ d = f done.length := by
  have hl := congrArg List.length e
  simp at hl
  have h := DP.at_done e
  rw [List.getElem?_map, List.getElem?_range (by omega)] at h
  exact ⟨by omega, (Option.some.inj h).symm⟩
theorem sz_small {i : Int} (h : -1000000 < i) (h2 : i < 1000000) : Sz 64 i := Sz.of64 (by omega) (by omega)
def isNon : D → Bool
  | .non => true
  | _ => false
@[simp] theorem is_non {neg : Bool} {d : D} {ρ : List Sl} {s : List Cl} : gIs neg (.v d) (.v .non) ρ s = .ok (.v (.bl (if neg = true then !isNon d else isNon d))) ρ s := by
  cases d <;> rfl
@[simp] theorem isNon_non : isNon .non = true := rfl
@[simp ↓] theorem ok_unTupL {n : Nat} {ks : List D → M Unit} {ds : List D} {ρ : List Sl} {s : List Cl} {QU : Unit → List Sl → List Cl → Prop} : Ok (unTup n ks (.v (.lst ds)) ρ s) QU ↔ ds.length = n ∧ Ok (ks ds ρ s) QU :=
  ok_grd (r := ks ds ρ s)
@[simp ↓] theorem ok_par3 {i j k : Nat} {a b c : D} {ρ : List Sl} {s : List Cl} {QF : Fl → List Sl → List Cl → Prop} : Ok (par3 i j k [.v a, .v b, .v c] ρ s) QF ↔ Ok (put i (.v a) ρ s) fun _ ρ s => Ok (put j (.v b) ρ s) fun _ ρ s => Ok (put k (.v c) ρ s) fun _ ρ s => QF .nx ρ s := by
  show Ok (M.bind (put i (.v a)) (fun _ => M.bind (put j (.v b)) fun _ => M.bind (put k (.v c)) fun _ => sNx) ρ s) QF ↔ _
  rw [ok_bind]
  refine ok_fun fun _ _ _ => ?_
  rw [ok_bind]
  exact ok_fun fun _ _ _ => ok_bind
theorem vi_mono {f : M E} {c : Cl} {ds : List D} {s : List Cl} {Q Q' : Cl → List Cl → Prop} (h : VI f c ds s Q) (k : ∀ c s, Q c s → Q' c s) : VI f c ds s Q' :=
  Ok.mono h fun e as s' ⟨h1, c', h2, h3⟩ => ⟨h1, c', h2, k c' s' h3⟩
theorem eqZ_f {xs : List D} {ρ : List Sl} {s : List Cl} : gEqZ (.f (.lst xs)) (.f (.lst [])) ρ s = .ok (.v (.bl xs.isEmpty)) ρ s := eqZ_nil rfl fun d q => by cases q
@[simp ↓] theorem b_max2 {i j : Int} {ρ : List Sl} {s : List Cl} {Q : E → List Sl → List Cl → Prop} : Ok (gMax2 [.v (.int i), .v (.int j)] ρ s) Q ↔ Q (.v (.int (if j > i then j else i))) ρ s := Iff.rfl
@[simp ↓] theorem b_min2 {i j : Int} {ρ : List Sl} {s : List Cl} {Q : E → List Sl → List Cl → Prop} : Ok (gMin2 [.v (.int i), .v (.int j)] ρ s) Q ↔ Q (.v (.int (if j < i then j else i))) ρ s := Iff.rfl
/-! ### texts -/
/-- a closed value; n: above its depth, w: its weight; b: lists within, g: dicts within -/
def Sh (n w : Nat) (b g : Bool) (d : D) : Prop := ∃ (p : PyData) (b' : Bool), (∀ s m, n ≤ m → pyR s m d = some (p, b')) ∧ p.showable = true ∧ p.leavesShort 1921 = true ∧ p.weight ≤ w ∧ p.depth < n ∧ (b' = true → b = true) ∧ (p.hasDict = true → g = true)
theorem Sh.up {n w n' w' : Nat} {b g b' g' : Bool} {d : D} (h : Sh n w b g d) (hn : n ≤ n') (hw : w ≤ w') (hb : b = true → b' = true) (hg : g = true → g' = true) : Sh n' w' b' g' d := by
  obtain ⟨p, c, h1, h2, h3, h4, h5, h6, h7⟩ := h
  exact ⟨p, c, fun s m hm => h1 s m (by omega), h2, h3, by omega, by omega, fun q => hb (h6 q), fun q => hg (h7 q)⟩
theorem sh_leaf {d : D} {p : PyData} {w : Nat} (h : ∀ s m, pyR s (m + 1) d = some (p, false)) (h1 : p.showable = true) (h2 : p.leavesShort 1921 = true) (h3 : p.weight ≤ w) (h4 : p.depth = 0) (h5 : p.hasDict = false) : Sh 1 w false false d :=
  ⟨p, false, fun s m hm => by obtain ⟨k, rfl⟩ : ∃ k, m = k + 1 := ⟨m - 1, by omega⟩; exact h s k, h1, h2, h3, by omega, fun q => q, fun q => by rw [h5] at q; cases q⟩
theorem sh_int {k : Nat} {i : Int} (h : Sz k i) (hk : k ≤ 1900) : Sh 1 (k + 1) false false (.int i) := by
  have hl : i.natAbs.log2 < k + 1 := by
    by_cases z : i.natAbs = 0
    · rw [z]; exact Nat.succ_pos _
    · exact (Nat.log2_lt z).mpr (h.mono (Nat.le_succ _))
  refine sh_leaf (fun s m => rfl) ?_ ?_ ?_ (by simp [PyData.depth]) (by simp [PyData.hasDict])
  · simp only [PyData.showable]
    exact decide_eq_true (by omega)
  · simp only [PyData.leavesShort]
    rw [decide_eq_true_iff, PyData.shown_int]
    exact PyProof.Rows.int_text_len_1921 (by omega)
  · simp only [PyData.weight]
    split <;> omega
theorem sh_str {x : Str} {k : Nat} (h1 : x.cps.size ≤ k) (h2 : (x.cps.toList.all fun c => decide (c < 16 ^ 8)) = true) : Sh 1 k false false (.str x) :=
  sh_leaf (fun s m => rfl) (by simp [PyData.showable]) (by simpa only [PyData.leavesShort] using h2) (by simpa only [PyData.weight] using h1) (by simp [PyData.depth]) (by simp [PyData.hasDict])
theorem sh_non : Sh 1 0 false false .non := sh_leaf (fun s m => rfl) (by simp [PyData.showable]) (by simp [PyData.leavesShort]) (by simp [PyData.weight]) (by simp [PyData.depth]) (by simp [PyData.hasDict])
theorem sh_bl {b : Bool} : Sh 1 0 false false (.bl b) := sh_leaf (fun s m => rfl) (by simp [PyData.showable]) (by simp [PyData.leavesShort]) (by simp [PyData.weight]) (by simp [PyData.depth]) (by simp [PyData.hasDict])
theorem sh_all {n w : Nat} {b g : Bool} : ∀ {xs : List D}, (∀ x ∈ xs, Sh n w b g x) → ∃ ps : List (PyData × Bool), (∀ s m, n ≤ m → mapO (pyR s m) xs = some ps) ∧ PyData.showableAll (ps.map (·.1)) = true ∧ PyData.leavesShortAll 1921 (ps.map (·.1)) = true ∧ PyData.weightAll (ps.map (·.1)) ≤ (w + 1) * xs.length ∧ (0 < n → PyData.depthAll (ps.map (·.1)) < n) ∧ (orAll ps = true → b = true) ∧ (PyData.hasDictAll (ps.map (·.1)) = true → g = true) ∧ ps.length = xs.length
  | [], _ => ⟨[], fun s m _ => rfl, by simp [PyData.showableAll], by simp [PyData.leavesShortAll], by simp [PyData.weightAll], by simp [PyData.depthAll], by simp [orAll], by simp [PyData.hasDictAll], rfl⟩
  | x :: xs, h => by
    obtain ⟨ps, h1, h2, h3, h4, h5, h6, h7, h8⟩ := sh_all fun y hy => h y (List.mem_cons_of_mem _ hy)
    obtain ⟨p, c, q1, q2, q3, q4, q5, q6, q7⟩ := h x List.mem_cons_self
    refine ⟨(p, c) :: ps, fun s m hm => ?_, by simp [PyData.showableAll, h2, q2], by simp [PyData.leavesShortAll, h3, q3], ?_, fun hn => ?_, fun q => ?_, fun q => ?_, by simp [h8]⟩
    · unfold mapO
      rw [q1 s m hm, h1 s m hm]
    · simp only [List.map_cons, PyData.weightAll, List.length_cons, Nat.mul_add]
      omega
    · have := h5 hn
      simp only [List.map_cons, PyData.depthAll]
      omega
    · simp only [orAll, Bool.or_eq_true] at q
      rcases q with q | q
      · exact q6 q
      · exact h6 q
    · simp only [List.map_cons, PyData.hasDictAll, Bool.or_eq_true] at q
      rcases q with q | q
      · exact q7 q
      · exact h7 q
theorem sh_tup {n w : Nat} {b g : Bool} {xs : List D} (hn : 0 < n) (h : ∀ x ∈ xs, Sh n w b g x) : Sh (n + 1) ((w + 1) * xs.length) b g (.tup xs) := by
  obtain ⟨ps, h1, h2, h3, h4, h5, h6, h7, _⟩ := sh_all h
  refine ⟨.tuple (ps.map (·.1)), orAll ps, fun s m hm => ?_, by simpa only [PyData.showable] using h2, by simpa only [PyData.leavesShort] using h3, by simpa only [PyData.weight] using h4, by have := h5 hn; simp only [PyData.depth]; omega, h6, by simpa only [PyData.hasDict] using h7⟩
  obtain ⟨k, rfl⟩ : ∃ k, m = k + 1 := ⟨m - 1, by omega⟩
  show (mapO (pyR s k) xs).map (fun ps => (PyData.tuple (ps.map (·.1)), orAll ps)) = _
  rw [h1 s k (by omega)]
  rfl
theorem sh_lst {n w : Nat} {b g : Bool} {xs : List D} (hn : 0 < n) (h : ∀ x ∈ xs, Sh n w b g x) : Sh (n + 1) ((w + 1) * xs.length) true g (.lst xs) := by
  obtain ⟨ps, h1, h2, h3, h4, h5, h6, h7, _⟩ := sh_all h
  refine ⟨.list (ps.map (·.1)), true, fun s m hm => ?_, by simpa only [PyData.showable] using h2, by simpa only [PyData.leavesShort] using h3, by simpa only [PyData.weight] using h4, by have := h5 hn; simp only [PyData.depth]; omega, fun _ => rfl, by simpa only [PyData.hasDict] using h7⟩
  obtain ⟨k, rfl⟩ : ∃ k, m = k + 1 := ⟨m - 1, by omega⟩
  show (mapO (pyR s k) xs).map (fun ps => (PyData.list (ps.map (·.1)), true)) = _
  rw [h1 s k (by omega)]
  rfl
theorem keyP_str {x : Str} : keyP (.inr x) = .str x := rfl
theorem zip_kv {kw : Nat} : ∀ {ks : List Str} {ps : List PyData}, (∀ k ∈ ks, k.cps.size ≤ kw ∧ (k.cps.toList.all fun c => decide (c < 16 ^ 8)) = true) → PyData.showableAll ps = true → PyData.leavesShortAll 1921 ps = true →
    PyData.showableKv (((ks.map Sum.inr).map keyP).zip ps) = true ∧ PyData.leavesShortKv 1921 (((ks.map Sum.inr).map keyP).zip ps) = true ∧ PyData.weightKv (((ks.map Sum.inr).map keyP).zip ps) ≤ (kw + 1) * ks.length + PyData.weightAll ps ∧ PyData.depthKv (((ks.map Sum.inr).map keyP).zip ps) ≤ PyData.depthAll ps
  | [], ps, _, _, _ => by simp [PyData.showableKv, PyData.leavesShortKv, PyData.weightKv, PyData.depthKv]
  | k :: ks, [], _, _, _ => by simp [PyData.showableKv, PyData.leavesShortKv, PyData.weightKv, PyData.depthKv]
  | k :: ks, p :: ps, h, h1, h2 => by
    simp only [PyData.showableAll, Bool.and_eq_true] at h1
    simp only [PyData.leavesShortAll, Bool.and_eq_true] at h2
    obtain ⟨q1, q2, q3, q4⟩ := zip_kv (fun k hk => h k (List.mem_cons_of_mem _ hk)) h1.2 h2.2
    obtain ⟨k1, k2⟩ := h k List.mem_cons_self
    have e : ((((k :: ks).map Sum.inr).map keyP).zip (p :: ps) : List (PyData × PyData)) = (.str k, p) :: ((ks.map Sum.inr).map keyP).zip ps := rfl
    rw [e]
    refine ⟨by simp only [PyData.showableKv, PyData.showable, h1.1, q1, Bool.and_self], by simp only [PyData.leavesShortKv, PyData.leavesShort, h2.1, q2, k2, Bool.and_self], ?_, ?_⟩
    · simp only [PyData.weightKv, PyData.weight, PyData.weightAll, List.length_cons, Nat.mul_add]
      omega
    · simp only [PyData.depthKv, PyData.depth, PyData.depthAll]
      omega
theorem sh_dk {n w kw : Nat} {b g : Bool} {ks : List Str} {xs : List D} (hn : 0 < n) (hl : ks.length = xs.length) (hk : ∀ k ∈ ks, k.cps.size ≤ kw ∧ (k.cps.toList.all fun c => decide (c < 16 ^ 8)) = true) (h : ∀ x ∈ xs, Sh n w b g x) : Sh (n + 1) ((w + kw + 2) * xs.length) b true (.dk (ks.map Sum.inr) xs) := by
  obtain ⟨ps, h1, h2, h3, h4, h5, h6, h7, h8⟩ := sh_all h
  obtain ⟨q1, q2, q3, q4⟩ := zip_kv hk h2 h3
  refine ⟨.dict (((ks.map Sum.inr).map keyP).zip (ps.map (·.1))), orAll ps, fun s m hm => ?_, by simpa only [PyData.showable] using q1, by simpa only [PyData.leavesShort] using q2, ?_, ?_, h6, fun _ => rfl⟩
  · obtain ⟨k, rfl⟩ : ∃ k, m = k + 1 := ⟨m - 1, by omega⟩
    show (mapO (pyR s k) xs).map (fun ps => (PyData.dict (((ks.map Sum.inr).map keyP).zip (ps.map (·.1))), orAll ps)) = _
    rw [h1 s k (by omega)]
    rfl
  · simp only [PyData.weight]
    have e : (w + kw + 2) * xs.length = (w + 1) * xs.length + (kw + 1) * xs.length := by rw [← Nat.add_mul]; congr 1; omega
    rw [hl] at q3
    omega
  · have := h5 hn
    simp only [PyData.depth]
    omega
/-- the text of a closed value -/
noncomputable def rpS (d : D) : Str := match pyR [] 20 d with
  | some p => p.1.shown
  | none => Str.empty
theorem rp_ok {p : PyData} {b : Bool} (h1 : p.hasDict = true → b = false) (sh : p.showable = true) (lv : p.leavesShort 1921 = true) (wt : p.weight ≤ 8000) (dp : p.depth ≤ 40) : rpOk (p, b) = true := by
  have hl := PyData.shown_le 1921 (by decide) p lv
  have hs : p.shown.length ≤ sizeLine := by
    have : sizeLine = 2 ^ 24 := by decide +kernel
    rw [this]
    omega
  unfold rpOk
  dsimp only
  rw [Bool.and_eq_true, Bool.and_eq_true, Bool.and_eq_true]
  refine ⟨?_, sh, decide_eq_true dp, decide_eq_true hs⟩
  cases hh : p.hasDict with
  | false => rfl
  | true => rw [h1 hh]; rfl
/-- shown at the top -/
def Shown (d : D) : Prop := ∃ n w b g, Sh n w b g d ∧ n ≤ 12 ∧ w ≤ 8000 ∧ (b && g) = false
theorem Sh.shown {n w : Nat} {b g : Bool} {d : D} (h : Sh n w b g d) (hn : n ≤ 12) (hw : w ≤ 8000) (hb : (b && g) = false) : Shown d := ⟨n, w, b, g, h, hn, hw, hb⟩
theorem Shown.py {d : D} (h : Shown d) : ∃ p : PyData × Bool, (∀ s m, 12 ≤ m → pyR s m d = some p) ∧ rpOk p = true ∧ p.1.shown = rpS d := by
  obtain ⟨n, w, b, g, ⟨p, b', h1, h2, h3, h4, h5, h6, h7⟩, hn, hw, hb⟩ := h
  refine ⟨(p, b'), fun s m hm => h1 s m (by omega), rp_ok (fun q => ?_) h2 h3 (by omega) (by omega), ?_⟩
  · have := h7 q
    rw [this, Bool.and_true] at hb
    cases b' with
    | false => rfl
    | true => rw [h6 rfl] at hb; cases hb
  · unfold rpS
    rw [h1 [] 20 (by omega)]
section
variable {ρ : List Sl} {s : List Cl} {d : D} {c : Cl} {i n : Nat}
theorem rs_v (h : Shown d) : gRepr [.v d] ρ s = .ok (.v (.str (rpS d))) ρ s := by
  obtain ⟨p, h1, h2, h3⟩ := h.py
  show (match pyR s 12 d with | some p => if rpOk p = true then R.ok (E.v (.str p.1.shown)) ρ s else .no | none => .no) = _
  rw [h1 s 12 (Nat.le_refl _)]
  dsimp only
  rw [if_pos h2, h3]
def plainC : Cl → Bool
  | .lst _ => true
  | .dk _ _ => true
  | _ => false
theorem rs_con {e : E} (he : ∀ d, e ≠ .v d) (hc : con e ρ s = some c) (hp : plainC c = true) (h : Shown c.val) : gRepr [e] ρ s = .ok (.v (.str (rpS c.val))) ρ s := by
  obtain ⟨p, h1, h2, h3⟩ := h.py
  have key : pyRE e ρ s = some p := by
    have hs := h1 s 13 (by omega)
    have e0 : pyRE e ρ s = (match con e ρ s with
      | some (.lst xs) => (mapO (pyR s 12) xs).map fun ps => (PyData.list (ps.map (·.1)), true)
      | some (.dk ks xs) => (mapO (pyR s 12) xs).map fun ps => (PyData.dict ((ks.map keyP).zip (ps.map (·.1))), orAll ps)
      | _ => none) := by
      cases e with
      | v d => exact absurd rfl (he d)
      | l i => rfl
      | f c => rfl
    rw [e0, hc]
    cases c with
    | lst xs => exact hs
    | dk ks xs => exact hs
    | _ => cases hp
  show (match pyRE e ρ s with | some p => if rpOk p = true then R.ok (E.v (.str p.1.shown)) ρ s else .no | none => .no) = _
  rw [key]
  dsimp only
  rw [if_pos h2, h3]
theorem rs_f (hp : plainC c = true) (h : Shown c.val) : gRepr [.f c] ρ s = .ok (.v (.str (rpS c.val))) ρ s := rs_con (fun d q => by cases q) rfl hp h
theorem rs_flst {xs : List D} (h : Shown (.lst xs)) : gRepr [.f (.lst xs)] ρ s = .ok (.v (.str (rpS (.lst xs)))) ρ s := rs_f (c := .lst xs) rfl h
theorem rs_l (hi : ρ[i]? = some (.own c)) (hp : plainC c = true) (h : Shown c.val) : gRepr [.l i] ρ s = .ok (.v (.str (rpS c.val))) ρ s := rs_con (fun d q => by cases q) (by rw [con_l, hi]; rfl) hp h
theorem rs_io (hi : ρ[i]? = some (.io c)) (hp : plainC c = true) (h : Shown c.val) : gRepr [.l i] ρ s = .ok (.v (.str (rpS c.val))) ρ s := rs_con (fun d q => by cases q) (by rw [con_l, hi]; rfl) hp h
theorem rs_ref (hn : s[n]? = some c) (hp : plainC c = true) (h : Shown c.val) : gRepr [.v (.ref n)] ρ s = .ok (.v (.str (rpS c.val))) ρ s := by
  obtain ⟨p, h1, h2, h3⟩ := h.py
  have hs := h1 s 12 (Nat.le_refl _)
  have key : pyR s 12 (.ref n) = some p := by
    have e0 : pyR s 12 (.ref n) = (match s[n]? with
      | some (.lst xs) => (mapO (pyR s 11) xs).map fun ps => (PyData.list (ps.map (·.1)), true)
      | some (.dk ks xs) => (mapO (pyR s 11) xs).map fun ps => (PyData.dict ((ks.map keyP).zip (ps.map (·.1))), orAll ps)
      | _ => none) := rfl
    rw [e0, hn]
    cases c with
    | lst xs => exact hs
    | dk ks xs => exact hs
    | _ => cases hp
  show (match pyR s 12 (.ref n) with | some p => if rpOk p = true then R.ok (E.v (.str p.1.shown)) ρ s else .no | none => .no) = _
  rw [key]
  dsimp only
  rw [if_pos h2, h3]
end
/-! ### equality -/
def Ed (n : Nat) (d : D) : Prop := ∃ p, (∀ s m, n ≤ m → pyD s m d = some p) ∧ p.canLay0 = true ∧ p.depth < n
theorem Ed.up {n n' : Nat} {d : D} (h : Ed n d) (hn : n ≤ n') : Ed n' d := by
  obtain ⟨p, h1, h2, h3⟩ := h
  exact ⟨p, fun s m hm => h1 s m (by omega), h2, by omega⟩
theorem ed_leaf {d : D} {p : PyData} (h : ∀ s m, pyD s (m + 1) d = some p) (h1 : p.canLay0 = true) (h2 : p.depth = 0) : Ed 1 d :=
  ⟨p, fun s m hm => by obtain ⟨k, rfl⟩ : ∃ k, m = k + 1 := ⟨m - 1, by omega⟩; exact h s k, h1, by omega⟩
theorem ed_int {i : Int} : Ed 1 (.int i) := ed_leaf (fun s m => rfl) (by simp [PyData.canLay0]) (by simp [PyData.depth])
theorem ed_non : Ed 1 .non := ed_leaf (fun s m => rfl) (by simp [PyData.canLay0]) (by simp [PyData.depth])
theorem ed_bl {b : Bool} : Ed 1 (.bl b) := ed_leaf (fun s m => rfl) (by simp [PyData.canLay0]) (by simp [PyData.depth])
theorem ed_str {x : Str} (h : PyData.strOk x = true) : Ed 1 (.str x) := ed_leaf (fun s m => rfl) (by simpa [PyData.canLay0] using h) (by simp [PyData.depth])
theorem ed_all {n : Nat} : ∀ {xs : List D}, (∀ x ∈ xs, Ed n x) → ∃ ps : List PyData, (∀ s m, n ≤ m → mapO (pyD s m) xs = some ps) ∧ PyData.canLayAll0 ps = true ∧ (0 < n → PyData.depthAll ps < n)
  | [], _ => ⟨[], fun s m _ => rfl, by simp [PyData.canLayAll0], by simp [PyData.depthAll]⟩
  | x :: xs, h => by
    obtain ⟨ps, h1, h2, h3⟩ := ed_all fun y hy => h y (List.mem_cons_of_mem _ hy)
    obtain ⟨p, q1, q2, q3⟩ := h x List.mem_cons_self
    refine ⟨p :: ps, fun s m hm => ?_, by simp [PyData.canLayAll0, h2, q2], fun hn => ?_⟩
    · unfold mapO
      rw [q1 s m hm, h1 s m hm]
    · have := h3 hn
      simp only [PyData.depthAll]
      omega
theorem ed_tup {n : Nat} {xs : List D} (hn : 0 < n) (h : ∀ x ∈ xs, Ed n x) : Ed (n + 1) (.tup xs) := by
  obtain ⟨ps, h1, h2, h3⟩ := ed_all h
  refine ⟨.tuple ps, fun s m hm => ?_, by simpa only [PyData.canLay0] using h2, by have := h3 hn; simp only [PyData.depth]; omega⟩
  obtain ⟨k, rfl⟩ : ∃ k, m = k + 1 := ⟨m - 1, by omega⟩
  show (mapO (pyD s k) xs).map PyData.tuple = _
  rw [h1 s k (by omega)]
  rfl
theorem ed_lst {n : Nat} {xs : List D} (hn : 0 < n) (h : ∀ x ∈ xs, Ed n x) : Ed (n + 1) (.lst xs) := by
  obtain ⟨ps, h1, h2, h3⟩ := ed_all h
  refine ⟨.list ps, fun s m hm => ?_, by simpa only [PyData.canLay0] using h2, by have := h3 hn; simp only [PyData.depth]; omega⟩
  obtain ⟨k, rfl⟩ : ∃ k, m = k + 1 := ⟨m - 1, by omega⟩
  show (mapO (pyD s k) xs).map PyData.list = _
  rw [h1 s k (by omega)]
  rfl
noncomputable def pz (d : D) : PyData := (pyD [] 20 d).getD .none
noncomputable def eqS (a b : D) : Bool := PyData.eqv (pz a) (pz b)
theorem Ed.pz {n : Nat} {d : D} (h : Ed n d) (hn : n ≤ 20) : (∀ s m, n ≤ m → pyD s m d = some (pz d)) ∧ (DP.pz d).canLay0 = true ∧ (DP.pz d).depth < n := by
  obtain ⟨p, h1, h2, h3⟩ := h
  have e : DP.pz d = p := by
    unfold DP.pz
    rw [h1 [] 20 hn]
    rfl
  rw [e]
  exact ⟨h1, h2, h3⟩
theorem Ed.shaped {n : Nat} {d : D} (h : Ed n d) (hn : n ≤ 20) : SeqAt.shaped (DP.pz d) = true := by
  obtain ⟨_, h2, h3⟩ := h.pz hn
  unfold SeqAt.shaped
  rw [h2, Bool.true_and, decide_eq_true_iff]
  omega
theorem eqS_int {i j : Int} : eqS (.int i) (.int j) = decide (i = j) := by
  show PyData.eqv (.int i) (.int j) = _
  simp only [PyData.eqv]
  exact Bool.beq_eq_decide_eq _ _
theorem eqS_str {x y : Str} : eqS (.str x) (.str y) = decide (x = y) := by
  show PyData.eqv (.str x) (.str y) = _
  simp only [PyData.eqv]
  exact Bool.beq_eq_decide_eq _ _
theorem eqS_refl {n : Nat} {d : D} (h : Ed n d) (hn : n ≤ 20) : eqS d d = true := eqv_same (h.shaped hn)
/-- what an operand of == is -/
def Op (e : E) (ρ : List Sl) (s : List Cl) (d : D) : Prop := (e = .v d ∧ ∀ n, d ≠ .ref n) ∨ (∃ xs, d = .lst xs ∧ con e ρ s = some (.lst xs) ∧ ∀ d', e = .v d' → ∃ n, d' = .ref n)
section
variable {ρ : List Sl} {s : List Cl} {d d' : D} {e e' : E} {n m : Nat} {neg : Bool}
theorem op_v (h : ∀ n, d ≠ .ref n) : Op (.v d) ρ s d := .inl ⟨rfl, h⟩
theorem op_f {xs : List D} : Op (.f (.lst xs)) ρ s (.lst xs) := .inr ⟨xs, rfl, rfl, fun d q => by cases q⟩
theorem op_l {i : Nat} {xs : List D} (h : ρ[i]? = some (.own (.lst xs))) : Op (.l i) ρ s (.lst xs) := .inr ⟨xs, rfl, by rw [con_l, h]; rfl, fun d q => by cases q⟩
theorem op_ref {i : Nat} {xs : List D} (h : s[i]? = some (.lst xs)) : Op (.v (.ref i)) ρ s (.lst xs) := .inr ⟨xs, rfl, h, fun d q => by cases q; exact ⟨i, rfl⟩⟩
theorem Op.py (h : Op e ρ s d) (he : Ed n d) (hn : n ≤ 12) : pyE e ρ s = some (pz d) := by
  obtain ⟨h1, _, _⟩ := he.pz (by omega)
  rcases h with ⟨rfl, _⟩ | ⟨xs, rfl, hc, hv⟩
  · exact h1 s 12 hn
  · have k12 := h1 s 12 hn
    have k13 := h1 s 13 (by omega)
    cases e with
    | v d' =>
      obtain ⟨i, rfl⟩ := hv d' rfl
      have hc : s[i]? = some (.lst xs) := hc
      show (match s[i]? with | some (.lst xs) => (mapO (pyD s 11) xs).map PyData.list | _ => none) = _
      rw [hc]
      exact k12
    | l i =>
      show (match con (.l i) ρ s with | some (.lst xs) => (mapO (pyD s 12) xs).map PyData.list | _ => none) = _
      rw [hc]
      exact k13
    | f c =>
      show (match con (.f c) ρ s with | some (.lst xs) => (mapO (pyD s 12) xs).map PyData.list | _ => none) = _
      rw [hc]
      exact k13
theorem eqn_ed (ha : Op e ρ s d) (hb : Op e' ρ s d') (h : Ed n d) (h' : Ed m d') (hn : n ≤ 12) (hm : m ≤ 12) : gEqn neg e e' ρ s = .ok (.v (.bl (if neg then !eqS d d' else eqS d d'))) ρ s := by
  by_cases k1 : ∃ i j, e = .v (.int i) ∧ e' = .v (.int j)
  · obtain ⟨i, j, rfl, rfl⟩ := k1
    have e1 : d = .int i := by
      rcases ha with ⟨q, _⟩ | ⟨xs, _, hc, hv⟩
      · cases q; rfl
      · obtain ⟨n, q⟩ := hv _ rfl; cases q
    have e2 : d' = .int j := by
      rcases hb with ⟨q, _⟩ | ⟨xs, _, hc, hv⟩
      · cases q; rfl
      · obtain ⟨n, q⟩ := hv _ rfl; cases q
    subst e1 e2
    rw [eqS_int]
    rfl
  · by_cases k2 : ∃ i j, e = .v (.str i) ∧ e' = .v (.str j)
    · obtain ⟨i, j, rfl, rfl⟩ := k2
      have e1 : d = .str i := by
        rcases ha with ⟨q, _⟩ | ⟨xs, _, hc, hv⟩
        · cases q; rfl
        · obtain ⟨n, q⟩ := hv _ rfl; cases q
      have e2 : d' = .str j := by
        rcases hb with ⟨q, _⟩ | ⟨xs, _, hc, hv⟩
        · cases q; rfl
        · obtain ⟨n, q⟩ := hv _ rfl; cases q
      subst e1 e2
      rw [eqS_str]
      rfl
    · have hp := ha.py h hn
      have hq := hb.py h' hm
      have other : (match pyE e ρ s, pyE e' ρ s with
        | some p, some q => if SeqAt.shaped p = true ∧ SeqAt.shaped q = true then R.ok (E.v (.bl (if neg then !PyData.eqv p q else PyData.eqv p q))) ρ s else .no
        | _, _ => .no) = .ok (.v (.bl (if neg then !eqS d d' else eqS d d'))) ρ s := by
        rw [hp, hq]
        dsimp only
        rw [if_pos ⟨h.shaped (by omega), h'.shaped (by omega)⟩]
        rfl
      cases e with
      | v a =>
        cases e' with
        | v b =>
          cases a with
          | int i => cases b <;> first | exact other | exact absurd ⟨_, _, rfl, rfl⟩ k1
          | str i => cases b <;> first | exact other | exact absurd ⟨_, _, rfl, rfl⟩ k2
          | _ => exact other
        | _ => cases a <;> exact other
      | l i => exact other
      | f c => exact other
end
/-! equality is sameness where no truths are -/
mutual
def noBl : PyData → Bool
  | .bool _ => false
  | .list xs => noBlA xs
  | .tuple xs => noBlA xs
  | .dict _ => false
  | _ => true
def noBlA : List PyData → Bool
  | [] => true
  | x :: xs => noBl x && noBlA xs
end
mutual
theorem eqv_iff : ∀ {p q : PyData}, noBl p = true → noBl q = true → (PyData.eqv p q = true ↔ p = q)
  | .none, q, _, h => by cases q <;> simp [PyData.eqv]
  | .bool _, _, h, _ => by simp [noBl] at h
  | .int i, q, _, h => by cases q <;> simp [PyData.eqv] <;> simp [noBl] at h
  | .str x, q, _, h => by cases q <;> simp [PyData.eqv]
  | .list xs, q, h1, h => by
    simp only [noBl] at h1
    cases q with
    | list ys =>
      simp only [noBl] at h
      simp only [PyData.eqv, PyData.list.injEq]
      exact eqvAll_iff h1 h
    | _ => simp [PyData.eqv]
  | .tuple xs, q, h1, h => by
    simp only [noBl] at h1
    cases q with
    | tuple ys =>
      simp only [noBl] at h
      simp only [PyData.eqv, PyData.tuple.injEq]
      exact eqvAll_iff h1 h
    | _ => simp [PyData.eqv]
  | .dict _, _, h, _ => by simp [noBl] at h
theorem eqvAll_iff : ∀ {ps qs : List PyData}, noBlA ps = true → noBlA qs = true → (PyData.eqvAll ps qs = true ↔ ps = qs)
  | [], [], _, _ => by simp [PyData.eqvAll]
  | [], _ :: _, _, _ => by simp [PyData.eqvAll]
  | _ :: _, [], _, _ => by simp [PyData.eqvAll]
  | p :: ps, q :: qs, h1, h2 => by
    simp only [noBlA, Bool.and_eq_true] at h1 h2
    simp only [PyData.eqvAll, Bool.and_eq_true, List.cons.injEq]
    rw [eqv_iff h1.1 h2.1, eqvAll_iff h1.2 h2.2]
end
end DP
set_option Elab.async false
set_option linter.all false
set_option maxRecDepth 100000
set_option maxHeartbeats 4000000
namespace Lw
open PySem L2 DL DP
theorem lg30 {i : Int} (h0 : 0 < i) (h : i ≤ 10 ^ 30) : i.natAbs.log2 < 9000 := Nat.lt_trans (log2_lt_of (k := 100) (by omega) (by decide)) (by decide)
theorem t_take {n : Nat} {s : List Cl} {k many : Int} (h : Bx n k s) (hm : 0 < many) (hM : many ≤ 10 ^ 30) (hk : k < 2 ^ 31) : V1 d__law_take [.ref n, .int many] s fun e s' => (∃ v, e = .v (.int v) ∧ 0 ≤ v ∧ v < many) ∧ Bx n (k + 1) s' ∧ DP.Same n s s' := by
  obtain ⟨c, h1, a, m, t, b, rfl, h3, h4, h5, h6, h7⟩ := h
  have hn : n < s.length := (List.getElem?_eq_some_iff.mp h1).1
  unfold d__law_take
  apply fn_val
  unfold b__law_take
  by_cases hc : b = true ∧ 0 < a
  · obtain ⟨rfl, ha⟩ := hc
    simp -dsimp [h1, atI, ixN, ha, Rt, hm]
    exact ⟨lg30 hm hM, ⟨Int.emod_nonneg _ (by omega), Int.emod_lt_of_pos _ hm⟩, bx_set hn (Int.ediv_nonneg h3 (by omega)) h4 h5 h6 (by omega), DP.Same.set⟩
  · have hc' : b = false ∨ (b = true ∧ ¬ 0 < a) := by cases b <;> simp_all
    have gs : ∀ c : Cl, (s.set n c)[n]? = some c := fun c => List.getElem?_set_self hn
    have tail : ∀ b : Bool, tMulW 15485863 (t + 1) = true ∧ (m + 15485863 * (t + 1) + 179424673).natAbs < 18446744073709551616 ∧ tMulW ((m + 15485863 * (t + 1) + 179424673) ^ 5 % 2147483647) 48271 = true ∧ tMulW 104729 (t + 1) = true ∧
          ((m + 15485863 * (t + 1) + 179424673) ^ 5 % 2147483647 * 48271 + 104729 * (t + 1)).natAbs < 18446744073709551616 ∧ Nat.log2 64 < 9000 ∧ 0 < many ∧
          (0 ≤ ((m + 15485863 * (t + 1) + 179424673) ^ 5 % 2147483647 * 48271 + 104729 * (t + 1)) ^ 3 % 2147483587 / 64 % many ∧ ((m + 15485863 * (t + 1) + 179424673) ^ 5 % 2147483647 * 48271 + 104729 * (t + 1)) ^ 3 % 2147483587 / 64 % many < many) ∧
          Bx n (k + 1) (s.set n (Cl.lst [D.int a, D.bl b, D.int m, D.int (t + 1)])) ∧ DP.Same n s (s.set n (Cl.lst [D.int a, D.bl b, D.int m, D.int (t + 1)])) := fun b => by
      have q1 := Int.emod_nonneg ((m + 15485863 * (t + 1) + 179424673) ^ 5) (b := 2147483647) (by omega)
      have q2 := Int.emod_lt_of_pos ((m + 15485863 * (t + 1) + 179424673) ^ 5) (b := 2147483647) (by omega)
      generalize (m + 15485863 * (t + 1) + 179424673) ^ 5 % 2147483647 = mx at q1 q2
      exact ⟨mulW_64 (by omega) (by omega) (by omega) (by omega), by omega, mulW_64 (by omega) (by omega) (by omega) (by omega), mulW_64 (by omega) (by omega) (by omega) (by omega), by omega, by decide +kernel, hm,
        ⟨Int.emod_nonneg _ (by omega), Int.emod_lt_of_pos _ hm⟩, bx_set hn h3 h4 h5 (by omega) (by omega), DP.Same.set⟩
    rcases hc' with rfl | ⟨rfl, ha⟩
    · simp -dsimp [h1, atI, ixN, gs, Rt, List.set_set]
      exact tail _
    · simp -dsimp [h1, atI, ixN, gs, Rt, List.set_set, ha]
      exact tail _
theorem small_size {n : Nat} (h : n ≤ 1000000) : n ≤ sizeLine := Nat.le_trans h size_big
theorem atI_nat {α : Type} {xs : List α} {p : Nat} (h : p < xs.length) : atI xs (p : Int) = xs[p]? := by
  unfold atI ixN
  have h1 : ¬ ((p : Int) < 0) := by omega
  have h2 : (p : Int) < (xs.length : Int) := by omega
  simp [h1, h2]
def cutN (ns : List Int) : List Int := (ns.drop (HT.sIx ns.length 0 none)).take (HT.sIx ns.length ns.length (some 1) - HT.sIx ns.length 0 none)
theorem t_cell {s : List Cl} {ns : List Int} {k : Nat} (hk : k < 64) : V1 d__law_cell [.scr ns, .int k] s fun e s' => (∃ i, e = .v (.int i)) ∧ s' = s := by
  have hm : tMulW 6089 (k : Int) = true := mulW_64 (by omega) (by omega) (by omega) (by omega)
  have hcut : cutD (ns.map D.int) none (some 1) = (cutN ns).map D.int := by
    unfold cutD cutN
    rw [List.length_map, List.map_take, List.map_drop]
  unfold d__law_cell
  refine fn_val ?_
  unfold b__law_cell
  by_cases h : (k : Int) < (ns.length : Int)
  · have h' : k < ns.length := by omega
    have hat := Lw.atI_nat (xs := ns) (p := k) h'
    rw [List.getElem?_eq_getElem h'] at hat
    simp -dsimp [h, hat, Rt]
  · simp -dsimp [h, hm, hcut, sum_f, Rt]
theorem t_box {s : List Cl} {i : Int} : V1 d__law_box [.int i] s fun e s' => (∃ c, e = .f c ∧ BoxOk 0 c) ∧ s' = s := by
  have h4 : 4 ≤ sizeLine := small_size (by omega)
  have e18 : ((10 : Int) ^ (Int.toNat 18)) = 1000000000000000000 := rfl
  unfold d__law_box
  refine fn_val ?_
  unfold b__law_box
  simp -dsimp [h4, e18, Rt]
  refine ⟨_, _, _, _, rfl, ?_, ?_, ?_, ?_, ?_⟩
  · split <;> omega
  · exact Int.emod_nonneg _ (by omega)
  · have := Int.emod_lt_of_pos (if i < 0 then -i else i) (b := 2147483629) (by omega)
    omega
  · omega
  · omega
/-- nothing told so far has changed but n -/
structure Up (n : Nat) (s s' : List Cl) : Prop where
  len : s.length ≤ s'.length
  oth : ∀ m, m < s.length → m ≠ n → s'[m]? = s[m]?
theorem Up.refl {n : Nat} {s : List Cl} : Up n s s := ⟨Nat.le_refl _, fun _ _ _ => rfl⟩
theorem Up.trans {n : Nat} {s s1 s2 : List Cl} (a : Up n s s1) (b : Up n s1 s2) : Up n s s2 := ⟨Nat.le_trans a.len b.len, fun m h hn => (b.oth m (Nat.lt_of_lt_of_le h a.len) hn).trans (a.oth m h hn)⟩
theorem Up.same {n : Nat} {s s' : List Cl} (h : DP.Same n s s') : Up n s s' := ⟨Nat.le_of_eq h.len.symm, fun m _ hn => h.oth m hn⟩
theorem Up.app {n : Nat} {s r : List Cl} : Up n s (s ++ r) := ⟨by rw [List.length_append]; omega, fun m h _ => List.getElem?_append_left h⟩
theorem Up.set {n m : Nat} {s s' : List Cl} {c : Cl} (h : Up n s s') (hm : s.length ≤ m) : Up n s (s'.set m c) := ⟨by rw [List.length_set]; exact h.len, fun j hj hn => by
  rw [List.getElem?_set_ne (by omega)]
  exact h.oth j hj hn⟩
theorem bx_app {n : Nat} {k : Int} {s r : List Cl} (h : Bx n k s) : Bx n k (s ++ r) := by
  obtain ⟨c, h1, h2⟩ := h
  exact ⟨c, by rw [List.getElem?_append_left (List.getElem?_eq_some_iff.mp h1).1]; exact h1, h2⟩
theorem bx_oth {n m : Nat} {k : Int} {s : List Cl} {c : Cl} (h : Bx n k s) (hm : m ≠ n) : Bx n k (s.set m c) := by
  obtain ⟨c', h1, h2⟩ := h
  exact ⟨c', by rw [List.getElem?_set_ne hm]; exact h1, h2⟩
end Lw
set_option Elab.async false
set_option linter.all false
set_option maxRecDepth 100000
set_option maxHeartbeats 4000000
namespace Lw
open PySem L2 DL DP
/-! isinstance -/
def plainT : Ty → Bool
  | .own _ => false
  | _ => true
theorem k_int {t : Ty} (h : plainT t = true) : kitT "int" cls t = some (match t with | .int => true | .bl => true | _ => false) := by
  cases t <;> first | rfl | cases h
theorem k_bool {t : Ty} (h : plainT t = true) : kitT "bool" cls t = some (match t with | .bl => true | _ => false) := by
  cases t <;> first | rfl | cases h
theorem k_str {t : Ty} (h : plainT t = true) : kitT "str" cls t = some (match t with | .str => true | _ => false) := by
  cases t <;> first | rfl | cases h
theorem k_tuple {t : Ty} (h : plainT t = true) : kitT "tuple" cls t = some (match t with | .tup => true | _ => false) := by
  cases t <;> first | rfl | cases h
theorem k_list {t : Ty} (h : plainT t = true) : kitT "list" cls t = some (match t with | .lst => true | _ => false) := by
  cases t <;> first | rfl | cases h
theorem k_lt {t : Ty} (h : plainT t = true) : kitTs ["list", "tuple"] cls t = some (match t with | .lst => true | .tup => true | _ => false) := by
  cases t <;> first | rfl | cases h
theorem k_dict {t : Ty} (h : plainT t = true) : kitT "dict" cls t = some (match t with | .dct => true | _ => false) := by
  cases t <;> first | rfl | cases h
/-- the kind of a value that laws hand in -/
def tyP (s : List Cl) : D → Option Ty
  | .non => some .non
  | .bl _ => some .bl
  | .int _ => some .int
  | .str _ => some .str
  | .tup _ => some .tup
  | .lst _ => some .lst
  | .dk _ _ => some .dct
  | .ref n => match s[n]? with
    | some (.lst _) => some .lst
    | some (.dk _ _) => some .dct
    | _ => none
  | _ => none
theorem tyP_ty {s : List Cl} {ρ : List Sl} {d : D} {t : Ty} (h : tyP s d = some t) : tyD (.v d) ρ s = some t ∧ plainT t = true := by
  cases d <;> first
    | (cases h; exact ⟨rfl, rfl⟩)
    | (cases h; done)
    | skip
  rename_i n
  have h' : (match s[n]? with | some (.lst _) => some Ty.lst | some (.dk _ _) => some Ty.dct | _ => none) = some t := h
  rw [ty_ref]
  cases hs : s[n]? with
  | none => rw [hs] at h'; cases h'
  | some c =>
    rw [hs] at h'
    cases c with
    | lst xs => cases h'; exact ⟨rfl, rfl⟩
    | dk ks xs => cases h'; exact ⟨rfl, rfl⟩
    | _ => cases h'
def wholeT : Ty → Bool
  | .int => true
  | _ => false
def listT : Ty → Bool
  | .lst => true
  | .tup => true
  | _ => false
theorem t_is_whole {s : List Cl} {d : D} {t : Ty} (h : tyP s d = some t) : E1 d_is_whole [d] s (.bl (wholeT t)) := by
  unfold d_is_whole
  apply fn_e
  unfold b_is_whole
  have h1 := fun ρ => (tyP_ty (ρ := ρ) h).1
  have h2 := (tyP_ty (ρ := []) h).2
  simp -dsimp [h1, k_int h2, k_bool h2]
  cases t <;> simp -dsimp [h1, k_bool h2, Rt, wholeT]
theorem t_is_listed {s : List Cl} {d : D} {t : Ty} (h : tyP s d = some t) : E1 d_is_listed [d] s (.bl (listT t)) := by
  unfold d_is_listed
  apply fn_e
  unfold b_is_listed
  have h1 := fun ρ => (tyP_ty (ρ := ρ) h).1
  have h2 := (tyP_ty (ρ := []) h).2
  simp -dsimp [h1, k_lt h2]
  cases t <;> simp -dsimp [Rt, listT]
end Lw
set_option Elab.async false
set_option linter.all false
set_option maxRecDepth 100000
set_option maxHeartbeats 4000000
namespace Lw
open PySem L2 DL DP
def letters : Str := "abcdefghijklmnopqrstuvwxyz"
def noNames : List Str := ["any", "alike", "unlike", "less", "most", "more", "least", "all", "some", "not", "none", "if"]
def WordOk (x : Str) : Prop := 1 ≤ x.length ∧ x.length ≤ 8 ∧ ∀ c ∈ x.cps.toList, 97 ≤ c ∧ c ≤ 122
def NameOk (x : Str) : Prop := WordOk x ∧ x ∉ noNames
theorem letter_in {c : Nat} (h : 97 ≤ c ∧ c ≤ 122) : inT ⟨#[c]⟩ letters = true := by
  have k : ∀ i : Fin 26, inT ⟨#[97 + i.val]⟩ letters = true := by decide +kernel
  have := k ⟨c - 97, by omega⟩
  have e : 97 + (c - 97) = c := by omega
  rw [show 97 + (Fin.mk (c - 97) (by omega : c - 97 < 26)).val = c from e] at this
  exact this
theorem all_rep {n : Nat} {ρ : List Sl} {s : List Cl} : gAll [.f (.lst (List.replicate n (.bl true)))] ρ s = .ok (.v (.bl true)) ρ s := by
  rw [← List.map_replicate, all_f]
  simp
theorem t_is_word {s : List Cl} {x : Str} (h : WordOk x) : E1 d_is_word [.str x] s (.bl true) := by
  obtain ⟨h1, h2, h3⟩ := h
  unfold d_is_word
  apply fn_e
  unfold b_is_word
  have e1 : (1 : Int) ≤ (x.length : Int) := by omega
  have e2 : (x.length : Int) ≤ 8 := by omega
  have hs : x.length ≤ sizeLine := small_size (by omega)
  have hl : x.cps.toList.length = x.length := by simp [Str.length]
  simp -dsimp [k_str (t := .str) rfl, hs, e1, e2]
  refine ok_lcY (fun _ => .bl true) (by rw [List.length_map, hl]; exact hs) ?_ ?_
  · intro d hd
    obtain ⟨c, hc, rfl⟩ := List.mem_map.mp hd
    have hq : inT ⟨#[c]⟩ (Str.ofString "abcdefghijklmnopqrstuvwxyz") = true := letter_in (h3 c hc)
    simp -dsimp [hq, DL.flip]
  · have e : (List.map (fun (_ : D) => D.bl true) (List.map (fun c => D.str ⟨#[c]⟩) x.cps.toList)) = (List.map D.bl (List.replicate x.length true)) := by
      rw [List.map_map, List.map_replicate, ← hl]
      exact List.map_const' ..
    rw [e]
    simp -dsimp [all_rep, Rt]
theorem t_is_name {s : List Cl} {x : Str} (h : NameOk x) : E1 d_is_name [.str x] s (.bl true) := by
  unfold d_is_name
  apply fn_e
  unfold b_is_name
  have e := t_is_word (s := s) h.1
  have hi : ∀ ρ, itemsE (.v c_NO_NAMES) ρ s = some (true, noNames.map D.str) := fun ρ => rfl
  have h0 : ∀ x, E.v c_NO_NAMES = .v (.str x) → False := fun x q => by cases q
  have hn := h.2
  simp -dsimp [call1e e, in_strs h0 (hi _), DL.flip, hn, Rt]
theorem t_are_unlike {s : List Cl} {d : D} {bs : List Str} {b : Bool} (h : ∀ ρ, itemsE (.v d) ρ s = some (b, bs.map D.str)) (hn : bs.Nodup) (hl : bs.length ≤ 1000) : E1 d_are_unlike [d] s (.bl true) := by
  unfold d_are_unlike
  apply fn_e
  unfold b_are_unlike
  simp -dsimp [cnt_of (h _) hn hl, len_of (h _), Rt]
def NamesOk (bs : List Str) : Prop := 1 ≤ bs.length ∧ bs.length ≤ 4 ∧ bs.Nodup ∧ ∀ x ∈ bs, NameOk x
theorem t_are_unlike_names {s : List Cl} {d : D} {bs : List Str} (h : d = .lst (bs.map D.str) ∨ d = .tup (bs.map D.str)) (hb : NamesOk bs) : E1 d_are_unlike_names [d, .int 1, .int 4] s (.bl true) := by
  obtain ⟨h1, h2, h3, h4⟩ := hb
  have hi : ∃ b, ∀ ρ, itemsE (.v d) ρ s = some (b, bs.map D.str) := by
    rcases h with rfl | rfl
    · exact ⟨false, fun ρ => rfl⟩
    · exact ⟨true, fun ρ => rfl⟩
  obtain ⟨b, hi⟩ := hi
  have ht : ∃ t, tyP s d = some t ∧ listT t = true := by
    rcases h with rfl | rfl
    · exact ⟨_, rfl, rfl⟩
    · exact ⟨_, rfl, rfl⟩
  obtain ⟨t, ht, hlt⟩ := ht
  have hw : ∀ ρ, walkD d ρ s = .ok (bs.map D.str) ρ s := by
    rcases h with rfl | rfl <;> exact fun ρ => rfl
  have hl := t_is_listed ht
  rw [hlt] at hl
  have e1 : (1 : Int) ≤ (bs.length : Int) := by omega
  have e2 : (bs.length : Int) ≤ 4 := by omega
  have hu := t_are_unlike hi h3 (by omega)
  unfold d_are_unlike_names
  apply fn_e
  unfold b_are_unlike_names
  simp -dsimp [call1e hl, len_of (hi _), e1, e2, hw]
  refine ok_lcY (fun _ => .bl true) (by rw [List.length_map]; exact small_size (by omega)) ?_ ?_
  · intro y hy
    obtain ⟨x, hx, rfl⟩ := List.mem_map.mp hy
    simp -dsimp [call1e (t_is_name (s := s) (h4 x hx))]
  · have e : (List.map (fun (_ : D) => D.bl true) (List.map D.str bs)) = (List.map D.bl (List.replicate bs.length true)) := by
      rw [List.map_map, List.map_replicate]
      exact List.map_const' ..
    rw [e]
    simp -dsimp [all_rep, Rt, call1e hu]
theorem enumD_mem {xs : List D} {d : D} (h : d ∈ enumD xs) : ∃ (i : Nat) (y : D), d = .tup [.int i, y] ∧ xs[i]? = some y := by
  obtain ⟨i, hi, e⟩ := List.getElem_of_mem h
  have hl : i < xs.length := by rw [enumD_length] at hi; exact hi
  have h1 := enumD_get (List.getElem?_eq_getElem hl)
  rw [List.getElem?_eq_getElem hi, e] at h1
  exact ⟨i, xs[i], Option.some.inj h1, List.getElem?_eq_getElem hl⟩
/-- a form -/
def FormV (bs : List Str) (d : D) : Prop := ∃ P, d = .ins "Form" ["columns", "places"] [.tup (bs.map D.str), P]
theorem t_form {s : List Cl} {d : D} {bs : List Str} (h : d = .lst (bs.map D.str) ∨ d = .tup (bs.map D.str)) (hb : NamesOk bs) : VI d_Form___init__ (.ins "Form" [] []) [d] s fun c' s' => FormV bs c'.val ∧ s' = s := by
  have hu := t_are_unlike_names (s := s) h hb
  have hT : ∀ ρ, gTuple [.v d] ρ s = .ok (.v (.tup (bs.map D.str))) ρ s := by
    rcases h with rfl | rfl <;> exact fun ρ => rfl
  have hc : List.contains cls (Str.ofString "Form") = true := by decide +kernel
  unfold d_Form___init__
  apply fn_io
  unfold b_Form___init__
  simp -dsimp [call3e hu, hT, setFld_l, sfR, hc, putN, g_fld, fldR]
  refine ok_dcD (xs := enumD (bs.map D.str)) (by rw [enumD_length, List.length_map]; exact small_size (Nat.le_trans hb.2.1 (by decide))) ?_ ?_ (enumD (bs.map D.str)) [] [] rfl (Nat.le_refl _)
  · intro y hy
    obtain ⟨i, z, rfl, hz⟩ := enumD_mem hy
    obtain ⟨x, hx, rfl⟩ := List.mem_map.mp (List.mem_of_getElem? hz)
    simp -dsimp [keyD]
  · intro acc _
    have hdk : ∀ acc, (dkOf acc).val = .dk (acc.map (·.1)) (acc.map (·.2)) := fun _ => rfl
    have hne : ¬ (Str.ofString "columns" = Str.ofString "places") := by decide +kernel
    simp -dsimp [hdk, setFld_l, sfR, hc, putN, FormV, hne]
    exact ⟨_, _, ⟨rfl, rfl⟩, Nat.succ_le_succ (Nat.zero_le _), _, rfl⟩
end Lw
set_option Elab.async false
set_option linter.all false
set_option maxRecDepth 100000
set_option maxHeartbeats 4000000
namespace Lw
open PySem L2 DL DP
/-- a value that is handed in: plain, and the items of a tuple too -/
structure PlainV (s : List Cl) (d : D) : Prop where
  ty : ∃ t, tyP s d = some t
  its : ∀ xs, d = .tup xs → xs.length ≤ 1000 ∧ ∀ x ∈ xs, ∃ t, tyP s x = some t
theorem all_map {xs : List D} {p : D → Bool} {ρ : List Sl} {s : List Cl} : gAll [.f (.lst (xs.map fun x => .bl (p x)))] ρ s = .ok (.v (.bl (xs.all p))) ρ s := by
  have e : xs.map (fun x => D.bl (p x)) = (xs.map p).map D.bl := by rw [List.map_map]; rfl
  rw [e, all_f]
  simp
def isIntD : D → Bool
  | .int _ => true
  | _ => false
def tupLen (n : Nat) : D → Bool
  | .tup xs => xs.length == n
  | _ => false
@[simp] theorem tupLen_tup {n : Nat} {xs : List D} : tupLen n (.tup xs) = (xs.length == n) := rfl
/-- a row of ints -/
def rowOk (many : Nat) : D → Bool
  | .tup xs => xs.length == many && xs.all isIntD
  | _ => false
theorem ref_ty {s : List Cl} {n : Nat} {t : Ty} (h : tyP s (.ref n) = some t) : t = .lst ∨ t = .dct := by
  have h' : (match s[n]? with | some (.lst _) => some Ty.lst | some (.dk _ _) => some Ty.dct | _ => none) = some t := h
  split at h'
  · cases h'; exact .inl rfl
  · cases h'; exact .inr rfl
  · cases h'
theorem t_is_tuple_of {s : List Cl} {d : D} {t : Ty} {n : Nat} (h : tyP s d = some t) : E1 d_is_tuple_of [d, .int n] s (.bl (tupLen n d)) := by
  unfold d_is_tuple_of
  apply fn_e
  unfold b_is_tuple_of
  have h1 := fun ρ => (tyP_ty (ρ := ρ) h).1
  have h2 := (tyP_ty (ρ := []) h).2
  simp -dsimp [h1, k_tuple h2]
  cases d <;> first
    | (cases h; done)
    | (cases h; simp -dsimp [Rt, tupLen]; done)
    | skip
  · rename_i xs
    cases h
    simp -dsimp [Rt]
    by_cases he : xs.length = n
    · simp [he]
    · have : ¬ (xs.length : Int) = (n : Int) := by omega
      simp [he, this]
  · rcases ref_ty h with rfl | rfl <;> simp -dsimp [Rt, tupLen]
theorem whole_t {s : List Cl} {x : D} {t : Ty} (h : tyP s x = some t) : wholeT t = isIntD x := by
  cases x <;> first
    | (cases h; rfl)
    | (cases h; done)
    | skip
  rcases ref_ty h with rfl | rfl <;> rfl
theorem t_is_row {s : List Cl} {form d : D} {bs : List Str} (hF : FormV bs form) (hd : PlainV s d) : E1 d_Form_is_row [form, d] s (.bl (rowOk bs.length d)) := by
  obtain ⟨P, rfl⟩ := hF
  obtain ⟨⟨t, ht⟩, hi⟩ := hd
  have hc : List.contains cls (Str.ofString "Form") = true := by decide +kernel
  have hlk : List.lookup (Str.ofString "columns") [(Str.ofString "columns", D.tup (bs.map D.str)), (Str.ofString "places", P)] = some (D.tup (bs.map D.str)) := rfl
  have hl := t_is_tuple_of (n := bs.length) ht
  unfold d_Form_is_row
  apply fn_e
  unfold b_Form_is_row
  simp -dsimp [hc, hlk, call2e hl]
  cases d with
  | tup xs =>
    obtain ⟨hlen, hpl⟩ := hi xs rfl
    by_cases he : xs.length = bs.length
    · simp -dsimp [he]
      refine ok_lcY (fun x => .bl (isIntD x)) (small_size (by omega)) (fun x hx => ?_) ?_
      · obtain ⟨t, ht⟩ := hpl x hx
        have h := t_is_whole (s := s) ht
        rw [whole_t ht] at h
        simp -dsimp [call1e h]
      · have hk : rowOk bs.length (.tup xs) = xs.all isIntD := by unfold rowOk; simp [he]
        rw [hk]
        have e : ∀ ρ, gAll [.f (.lst (xs.map fun x => .bl (isIntD x)))] ρ s = _ := fun ρ => all_map
        simp -dsimp [e, Rt]
    · have hk : rowOk bs.length (.tup xs) = false := by unfold rowOk; simp [he]
      have he' : (xs.length == bs.length) = false := by simpa using he
      simp -dsimp [he', Rt, hk]
  | _ => simp -dsimp [Rt, rowOk, tupLen]
theorem t_check_row {s : List Cl} {form d : D} {bs : List Str} (hF : FormV bs form) (hd : PlainV s d) : if rowOk bs.length d = true then E1 d_check_row [form, d] s .non else X1 d_check_row [form, d] s "InvalidRow" d := by
  have h := t_is_row hF hd
  obtain ⟨P, rfl⟩ := hF
  have hn : List.contains [Str.ofString "columns", Str.ofString "places"] (Str.ofString "is_row") = false := by decide +kernel
  by_cases hk : rowOk bs.length d = true
  · rw [if_pos hk]
    rw [hk] at h
    unfold d_check_row
    apply fn_e
    unfold b_check_row
    simp -dsimp
    refine ok_meth (ds := [d]) hn rfl (h.v ?_) (by rfl)
    simp -dsimp [Rt]
  · rw [if_neg hk]
    have hk' : rowOk bs.length d = false := by simpa using hk
    rw [hk'] at h
    unfold d_check_row
    apply x_fn
    unfold b_check_row
    apply x_if
    simp -dsimp
    refine ok_meth (ds := [d]) hn rfl (h.v ?_) (by rfl)
    simp -dsimp
    apply x_raise
    simp -dsimp
/-! ### signs -/
def sgn (a b : Int) : Str := if a < b then "<" else if a = b then "=" else ">"
def sgnD : D → D
  | .tup [.int a, .int b] => .str (sgn a b)
  | d => d
@[simp] theorem sgnD_tup {a b : Int} : sgnD (.tup [.int a, .int b]) = .str (sgn a b) := rfl
theorem t_sign_of {s : List Cl} {a b : Int} : E1 d_sign_of [.int a, .int b] s (.str (sgn a b)) := by
  unfold d_sign_of
  apply fn_e
  unfold b_sign_of
  by_cases h : a = b
  · have h0 : ¬ a < b := by omega
    subst h
    simp -dsimp [Rt, sgn]
  · by_cases h2 : a < b
    · simp -dsimp [h, h2, Rt, sgn]
    · simp -dsimp [h, h2, Rt, sgn]
theorem t_law_sign {s : List Cl} {a b : Int} : E1 d__law_sign [.int a, .int b] s (.str (sgn a b)) := by
  unfold d__law_sign
  apply fn_e
  unfold b__law_sign
  by_cases h2 : a < b
  · simp -dsimp [h2, Rt, sgn]
  · by_cases h : a = b
    · simp -dsimp [h, Rt, sgn]
    · simp -dsimp [h, h2, Rt, sgn]
def cellS (xs ys : List Int) : List Str := List.zipWith sgn xs ys
theorem zipD_sgn : ∀ (xs ys : List Int), (zipD (xs.map D.int) (ys.map D.int)).map sgnD = (cellS xs ys).map D.str
  | [], _ => by simp [zipD, cellS]
  | x :: xs, [] => by simp [zipD, cellS]
  | x :: xs, y :: ys => by
    have ih := zipD_sgn xs ys
    have e : zipD ((x :: xs).map D.int) ((y :: ys).map D.int) = .tup [.int x, .int y] :: zipD (xs.map D.int) (ys.map D.int) := rfl
    rw [e, List.map_cons, ih]
    rfl
theorem zipD_mem {xs ys : List D} {d : D} (h : d ∈ zipD xs ys) : ∃ a ∈ xs, ∃ b ∈ ys, d = .tup [a, b] := by
  unfold zipD at h
  obtain ⟨i, hi, e⟩ := List.getElem_of_mem h
  rw [List.getElem_zipWith] at e
  rw [List.length_zipWith] at hi
  exact ⟨xs[i], List.getElem_mem _, ys[i], List.getElem_mem _, e.symm⟩
theorem zipD_len {xs ys : List D} : (zipD xs ys).length ≤ xs.length := by
  unfold zipD
  rw [List.length_zipWith]
  omega
theorem t_cell_of {s : List Cl} {xs ys : List Int} (hx : xs.length ≤ 1000) : E1 d_cell_of [.tup (xs.map D.int), .tup (ys.map D.int)] s (.tup ((cellS xs ys).map D.str)) := by
  unfold d_cell_of
  apply fn_e
  unfold b_cell_of
  simp -dsimp
  refine ok_lcY sgnD (small_size (Nat.le_trans zipD_len (by rw [List.length_map]; omega))) (fun d hd => ?_) ?_
  · obtain ⟨a, ha, b, hb, rfl⟩ := zipD_mem hd
    obtain ⟨i, _, rfl⟩ := List.mem_map.mp ha
    obtain ⟨j, _, rfl⟩ := List.mem_map.mp hb
    simp -dsimp [call2e (t_sign_of (s := s) (a := i) (b := j))]
  · rw [zipD_sgn]
    simp -dsimp [Rt]
end Lw
set_option Elab.async false
set_option linter.all false
set_option maxRecDepth 100000
set_option maxHeartbeats 4000000
namespace Lw
open PySem L2 DL DP
theorem at_done {α : Type} {xs done rest : List α} {d : α} (e : xs = done ++ d :: rest) : xs[done.length]? = some d := by
  rw [e, List.getElem?_append_right (Nat.le_refl _), Nat.sub_self]
  rfl
theorem w_r1n {m : Nat} {ρ : List Sl} {s : List Cl} (h : m ≤ 1000) : wR1 [.int (m : Int)] ρ s = .ok ((List.range m).map fun i => D.int (0 + (i : Nat))) ρ s := by
  rw [w_r1]
  unfold grdR
  rw [if_pos ⟨by omega, by omega⟩, Int.toNat_natCast]
def signs : List Str := ["<", "=", ">"]
def cellsN : Nat → List (List Str)
  | 0 => [[]]
  | n + 1 => (cellsN n).flatMap fun one => signs.map fun g => one ++ [g]
def cellD (c : List Str) : D := .tup (c.map D.str)
def cellsD (n : Nat) : List D := (cellsN n).map cellD
def extD : D → List D
  | .tup xs => signs.map fun g => .tup (xs ++ [.str g])
  | _ => []
theorem cellsD_succ {n : Nat} : cellsD (n + 1) = (cellsD n).flatMap extD := by
  unfold cellsD
  show ((cellsN n).flatMap fun one => signs.map fun g => one ++ [g]).map cellD = _
  rw [List.map_flatMap, List.flatMap_map]
  refine congrArg (fun f => (cellsN n).flatMap f) (funext fun c => ?_)
  show (signs.map fun g => c ++ [g]).map cellD = signs.map fun g => .tup (c.map D.str ++ [.str g])
  rw [List.map_map]
  refine List.map_congr_left fun g _ => ?_
  show D.tup ((c ++ [g]).map D.str) = _
  rw [List.map_append]
  rfl
theorem cellsN_len : ∀ n, (cellsN n).length = 3 ^ n
  | 0 => rfl
  | n + 1 => by
    show ((cellsN n).flatMap fun one => signs.map fun g => one ++ [g]).length = _
    have : ∀ (l : List (List Str)), (l.flatMap fun one => signs.map fun g => one ++ [g]).length = l.length * 3 := by
      intro l
      induction l with
      | nil => rfl
      | cons x l ih => rw [List.flatMap_cons, List.length_append, ih, List.length_cons]; simp [signs]; omega
    rw [this, cellsN_len n, Nat.pow_succ]
theorem cellsD_len {n : Nat} : (cellsD n).length = 3 ^ n := by
  unfold cellsD
  rw [List.length_map, cellsN_len]
theorem cellsD_small {n : Nat} (h : n ≤ 4) : (cellsD n).length ≤ 81 := by
  rw [cellsD_len]
  have : 3 ^ n ≤ 3 ^ 4 := Nat.pow_le_pow_right (by decide) h
  omega
/-- a cell of n columns -/
def CellN (n : Nat) (c : List Str) : Prop := c.length = n ∧ ∀ g ∈ c, g ∈ signs
theorem cellsN_cell : ∀ n, ∀ c ∈ cellsN n, CellN n c
  | 0, c, h => by
    have : c = [] := List.mem_singleton.mp h
    subst this
    exact ⟨rfl, fun g h => by cases h⟩
  | n + 1, c, h => by
    obtain ⟨one, h1, h2⟩ := List.mem_flatMap.mp h
    obtain ⟨g, hg, rfl⟩ := List.mem_map.mp h2
    obtain ⟨h3, h4⟩ := cellsN_cell n one h1
    refine ⟨by simp [h3], fun x hx => ?_⟩
    rcases List.mem_append.mp hx with hx | hx
    · exact h4 x hx
    · rw [List.mem_singleton.mp hx]; exact hg
theorem cellsD_tup {n : Nat} {d : D} (h : d ∈ cellsD n) : ∃ c, d = cellD c ∧ CellN n c := by
  obtain ⟨c, hc, rfl⟩ := List.mem_map.mp h
  exact ⟨c, rfl, cellsN_cell n c hc⟩
theorem km_keys : (km_TURNED.map fun kv => D.str kv.1) = signs.map D.str := rfl
theorem signs_walk : ((Str.ofString "<=>").cps.toList.map fun c => D.str ⟨#[c]⟩) = signs.map D.str := rfl
/-- a value comes out, told or new -/
def Gv (e : E) (d : D) : Prop := e = .v d ∨ ∃ c : Cl, e = .f c ∧ c.val = d
theorem Gv.frz {e : E} {d : D} (h : Gv e d) {ρ : List Sl} {s : List Cl} : DL.frz e ρ s = .ok d ρ s := by
  rcases h with rfl | ⟨c, rfl, rfl⟩ <;> rfl
theorem t_cells_of {s : List Cl} {m : Nat} (hm : m ≤ 4) (hm1 : 1 ≤ m) : V1 d_cells_of [.int m] s fun e s' => e = .f (.lst (cellsD m)) ∧ s' = s := by
  have hr := fun ρ s => w_r1n (m := m) (ρ := ρ) (s := s) (by omega)
  have z0 : 0 ≤ sizeLine := Nat.zero_le _
  have z1 : 1 ≤ sizeLine := small_size (by omega)
  unfold d_cells_of
  refine fn_val ?_
  unfold b_cells_of
  simp -dsimp [-w_r1, hr, z0, z1]
  refine ok_forE ((List.range m).map fun i => D.int (i : Nat)) (fun done rest ρ s1 => s1 = s ∧ ∃ x1 x2 : Sl, ((x1 = .val (.lst (cellsD done.length)) ∧ done.length = 0) ∨ x1 = .own (.lst (cellsD done.length))) ∧ Fr x2 ∧ ρ = [.val (.int m), x1, x2, .no, .no])
    ⟨rfl, _, .no, .inl ⟨rfl, rfl⟩, by simp, rfl⟩ ?_ ?_
  · rintro d rest done ρ s1 e ⟨rfl, x1, x2, hx1, f2, rfl⟩
    have hdl : done.length < m := by
      have := congrArg List.length e
      simp at this
      omega
    have hL := cellsD_small (n := done.length) (by omega)
    have hL1 := cellsD_small (n := done.length + 1) (by omega)
    rw [cellsD_succ] at hL1
    have step : Ok (lcD2 [3, 4] [4] (put 3) tYesD (M.pure (km_TURNED.map fun kv => D.str kv.1)) (put 4) tYesD (M.bind (eTup (aStar (eVar 3) (aCons (M.bind (eVar 4) frz) aNil))) frz) (cellsD done.length) [] [.val (.int m), .val (.lst (cellsD done.length)), .val d, .no, .no] s1)
        fun acc ρ' s' => acc = cellsD (done.length + 1) ∧ ρ' = [.val (.int m), .val (.lst (cellsD done.length)), .val d, .no, .no] ∧ s' = s1 := by
      refine ok_lc2Y extD (cellsD done.length) [] (by simp only [List.length_nil, Nat.zero_add]; exact small_size (by omega)) (fun y hy => ?_) ⟨by rw [List.nil_append, cellsD_succ], rfl, rfl⟩
      obtain ⟨c, rfl, hc⟩ := cellsD_tup hy
      simp -dsimp [km_keys, cellD]
      intro acc hacc
      refine ok_lcYa (fun g => match g with | .str g => .tup (c.map D.str ++ [.str g]) | g => g) (by simpa [extD, cellD] using hacc) (fun g hg => ?_) ?_
      · obtain ⟨z, hz, rfl⟩ := List.mem_map.mp hg
        have hlen : c.length + 1 ≤ sizeLine := small_size (by have := hc.1; omega)
        simp -dsimp [hlen]
      · simp -dsimp [extD]
        rfl
    rcases hx1 with ⟨rfl, _⟩ | rfl
    · simp -dsimp [putSl_fr f2]
      refine step.mono ?_
      rintro acc ρ' s' ⟨rfl, rfl, rfl⟩
      simp -dsimp
    · simp -dsimp [putSl_fr f2]
      refine step.mono ?_
      rintro acc ρ' s' ⟨rfl, rfl, rfl⟩
      simp -dsimp
  · rintro ρ s1 ⟨rfl, x1, x2, hx1, f2, rfl⟩
    have hl : ((List.range m).map fun i => D.int (i : Nat)).length = m := by simp
    rcases hx1 with ⟨rfl, h⟩ | rfl
    · exact absurd (hl.symm.trans h) (by omega)
    · simp -dsimp [Rt]
/-! ### the law's own cells -/
theorem t_law_all {s : List Cl} {m : Nat} (hm : m ≤ 4) : E1 d__law_all [.int m] s (.lst (cellsD m)) := by
  have hr := fun ρ s => w_r1n (m := m) (ρ := ρ) (s := s) (by omega)
  have z0 : 0 ≤ sizeLine := Nat.zero_le _
  have z1 : 1 ≤ sizeLine := small_size (by omega)
  unfold d__law_all
  refine fn_e ?_
  unfold b__law_all
  simp -dsimp [-w_r1, hr, z0, z1]
  refine ok_forE ((List.range m).map fun i => D.int (i : Nat)) (fun done rest ρ s1 => s1 = s ∧ ∃ x2 x3 x4 : Sl, Fr x2 ∧ Fr x3 ∧ Fr x4 ∧ ρ = [.val (.int m), .val (.lst (cellsD done.length)), x2, x3, x4, .no])
    ⟨rfl, .no, .no, .no, by simp, by simp, by simp, rfl⟩ ?_ ?_
  · rintro d rest done ρ s1 e ⟨rfl, x2, x3, x4, f2, f3, f4, rfl⟩
    have hdl : done.length < m := by
      have := congrArg List.length e
      simp at this
      omega
    have hL := cellsD_small (n := done.length) (by omega)
    simp -dsimp [putSl_fr f2, putSl_fr f3, z0]
    refine ok_forE (cellsD done.length) (fun done2 rest2 ρ s2 => s2 = s1 ∧ ∃ y4 : Sl, Fr y4 ∧ ρ = [.val (.int m), .val (.lst (cellsD done.length)), .val d, .own (.lst (done2.flatMap extD)), y4, .no]) ⟨rfl, x4, f4, rfl⟩ ?_ ?_
    · rintro d2 rest2 done2 ρ s2 e2 ⟨rfl, y4, g4, rfl⟩
      obtain ⟨c, rfl, hc⟩ := cellsD_tup (d := d2) (by rw [e2]; simp)
      have hlen : c.length + 1 ≤ sizeLine := small_size (by have := hc.1; omega)
      have hty : ∀ ρ s, ρ[3]? = some (.own (.lst (done2.flatMap extD))) → tyE "list" (.l 3) ρ s = true := fun ρ s h => tyE_l (xs := done2.flatMap extD) (by rw [con_l, h]; rfl)
      have hL1 := cellsD_small (n := done.length + 1) (by omega)
      rw [cellsD_succ, e2, List.flatMap_append, List.flatMap_cons, List.length_append, List.length_append] at hL1
      have hz : (done2.flatMap extD).length + (extD (cellD c)).length ≤ sizeLine := small_size (by omega)
      simp -dsimp [putSl_fr g4, hty, signs_walk, cellD]
      refine ok_lcY (fun g => match g with | .str g => .tup (c.map D.str ++ [.str g]) | g => g) (small_size (by simp [signs])) (fun g hg => ?_) ?_
      · obtain ⟨z, hz, rfl⟩ := List.mem_map.mp hg
        simp -dsimp [hlen, z1]
      · have he : (List.map (fun g => match g with | .str g => D.tup (c.map D.str ++ [.str g]) | g => g) (signs.map D.str)) = extD (cellD c) := rfl
        rw [he]
        have hx := fun ρ s h => ext_l (ρ := ρ) (s := s) (i := 3) (ys := extD (cellD c)) (xs := done2.flatMap extD) h
        simp -dsimp [-List.length_flatMap, hx, hz]
    · rintro ρ s2 ⟨rfl, y4, g4, rfl⟩
      simp -dsimp
      exact ⟨_, Fr.val, _, Fr.val, y4, g4, cellsD_succ.symm, rfl, rfl, rfl⟩
  · rintro ρ s1 ⟨rfl, x2, x3, x4, f2, f3, f4, rfl⟩
    have hl : ((List.range m).map fun i => D.int (i : Nat)).length = m := by simp
    rw [hl]
    simp -dsimp [-w_r1, Rt]
theorem t_all_cells {s : List Cl} {form : D} {bs : List Str} (hF : FormV bs form) (hb : bs.length ≤ 4) (hb1 : 1 ≤ bs.length) : V1 d_all_cells [form] s fun e s' => e = .f (.lst (cellsD bs.length)) ∧ s' = s := by
  obtain ⟨P, rfl⟩ := hF
  have hc : List.contains cls (Str.ofString "Form") = true := by decide +kernel
  have hlk : List.lookup (Str.ofString "columns") [(Str.ofString "columns", D.tup (bs.map D.str)), (Str.ofString "places", P)] = some (D.tup (bs.map D.str)) := rfl
  unfold d_all_cells
  refine fn_val ?_
  unfold b_all_cells
  simp -dsimp [hc, hlk]
  have hcs := t_cells_of (s := s) hb hb1
  generalize d_cells_of = dd at hcs ⊢
  refine ok_call1 (hcs.mono ?_)
  rintro e s' ⟨rfl, rfl⟩
  simp -dsimp [Rt]
/-! ### turned -/
def backS (x : Str) : Str := if x = "<" then ">" else if x = ">" then "<" else "="
def backD : D → D
  | .str x => .str (backS x)
  | d => d
theorem back_sgn {a b : Int} : backS (sgn a b) = sgn b a := by
  have e1 : ¬ (("=" : Str) = "<") := by decide +kernel
  have e2 : ¬ (("=" : Str) = ">") := by decide +kernel
  have e3 : ¬ ((">" : Str) = "<") := by decide +kernel
  unfold sgn backS
  by_cases h : a < b
  · have h1 : ¬ b < a := by omega
    have h2 : ¬ b = a := by omega
    simp [h, h1, h2]
  · by_cases h2 : a = b
    · subst h2
      simp [e1, e2]
    · have h1 : b < a := by omega
      simp [h, h2, h1, e3]
theorem back_cell : ∀ (xs ys : List Int), (cellS xs ys).map backS = cellS ys xs
  | [], ys => by simp [cellS]
  | x :: xs, [] => by simp [cellS]
  | x :: xs, y :: ys => by
    have ih := back_cell xs ys
    unfold cellS at ih ⊢
    rw [List.zipWith_cons_cons, List.zipWith_cons_cons, List.map_cons, ih, back_sgn]
theorem back_signs {x : Str} (h : x ∈ signs) : backS x ∈ signs := by
  have : ∀ x ∈ signs, backS x ∈ signs := by decide +kernel
  exact this x h
theorem t_law_back {s : List Cl} {c : List Str} (hc : c.length ≤ 1000) : E1 d__law_back [.tup (c.map D.str)] s (.tup ((c.map backS).map D.str)) := by
  unfold d__law_back
  refine fn_e ?_
  unfold b__law_back
  simp -dsimp
  refine ok_lcY backD (small_size (by rw [List.length_map]; omega)) (fun d hd => ?_) ?_
  · obtain ⟨x, _, rfl⟩ := List.mem_map.mp hd
    by_cases h1 : x = Str.ofString "<"
    · simp -dsimp [h1, backD, backS]
    · by_cases h2 : x = Str.ofString ">"
      · have h3 : ¬ (Str.ofString ">" = Str.ofString "<") := by decide +kernel
        simp -dsimp [h2, h3, backD, backS]
      · simp -dsimp [h1, h2, backD, backS]
  · have e : (c.map D.str).map backD = (c.map backS).map D.str := by
      rw [List.map_map, List.map_map]
      rfl
    rw [e]
    simp -dsimp [Rt]
end Lw
set_option Elab.async false
set_option linter.all false
set_option maxRecDepth 100000
set_option maxHeartbeats 4000000
namespace Lw
open PySem L2 DL DP
section
variable {α β : Type} {ρ ρ' : List Sl} {s s' : List Cl} {fl : M (List D)} {c : Str} {v d : D} {P : List Sl → Prop} {fd : M D}
theorem x_eLst (h : Xc (fl ρ s) c v P s') : Xc (eLst fl ρ s) c v P s' := x_bind2 h
theorem x_cons1 (h : Ok (fd ρ s) fun _ ρ1 s1 => Xc (fl ρ1 s1) c v P s') : Xc (aCons fd fl ρ s) c v P s' := x_bind1 (h.mono fun x ρ1 s1 q => x_bind2 q)
theorem x_cons2 (h : Xc (fd ρ s) c v P s') : Xc (aCons fd fl ρ s) c v P s' := x_bind2 h
end
theorem goH_hit {xs : List Str} {c cn : Str} {ns : List Str} {vs : List D} {io : Option Nat} {hd : Hd} {r : List HR} (h1 : List.contains (("EarlierError" : Str) :: xs) cn = true) (h2 : catches c cn = true) : goH xs c ns vs ((cn, io, hd) :: r) = hdRun io (hd ns vs) := by
  unfold goH
  rw [if_pos h1, if_pos h2]
theorem hdL_three {x : Str} {v : D} : hdL [.str x, .fld ("given" : Str), .bl true] ["given"] [v] = M.pure (.rt (.f (.lst [.str x, v, .bl true]))) := by
  have h2 : 3 ≤ sizeLine := small_size (by omega)
  unfold hdL
  simp [mapO, itDat, h2]
def signD : D → Bool
  | .str x => signs.contains x
  | _ => false
theorem t_is_sign {s : List Cl} {d : D} {t : Ty} (h : tyP s d = some t) : E1 d_is_sign [d] s (.bl (signD d)) := by
  unfold d_is_sign
  apply fn_e
  unfold b_is_sign
  have h1 := fun ρ => (tyP_ty (ρ := ρ) h).1
  have h2 := (tyP_ty (ρ := []) h).2
  have hk : km_TURNED.map (·.1) = signs := rfl
  simp -dsimp [h1, k_str h2]
  have key : ∀ {u}, tyP s d = some u → u ≠ .str → signD d = false := fun {u} q n => by
    cases d <;> first | rfl | (cases q; exact absurd rfl n)
  cases t <;> first | (simp -dsimp [Rt, key h]; done) | skip
  cases d <;> first | (cases h; done) | skip
  · simp -dsimp [Rt, hk, signD, negB]
  · rcases ref_ty h with h | h <;> cases h
def cellOk : D → Bool
  | .tup xs => decide (1 ≤ xs.length) && (decide (xs.length ≤ 4) && xs.all signD)
  | _ => false
theorem turn_look {x : Str} (h : x ∈ signs) : km_TURNED.lookup x = some (backS x) := by
  have : ∀ x ∈ signs, km_TURNED.lookup x = some (backS x) := by decide +kernel
  exact this x h
theorem sign_all {c : List Str} (h : ∀ g ∈ c, g ∈ signs) : (c.map D.str).all signD = true := by
  rw [List.all_eq_true]
  intro d hd
  obtain ⟨x, hx, rfl⟩ := List.mem_map.mp hd
  exact List.contains_iff_mem.mpr (h x hx)
theorem t_turned_ok {s : List Cl} {c : List Str} (h1 : 1 ≤ c.length) (h4 : c.length ≤ 4) (hc : ∀ g ∈ c, g ∈ signs) : E1 d_turned [cellD c] s (cellD (c.map backS)) := by
  have e1 : (1 : Int) ≤ (c.length : Int) := by omega
  have e2 : (c.length : Int) ≤ 4 := by omega
  have e3 : ¬ (c.length : Int) < 1 := by omega
  have hs : (c.map D.str).length ≤ sizeLine := small_size (by rw [List.length_map]; omega)
  unfold d_turned
  refine fn_e ?_
  unfold b_turned
  simp -dsimp [cellD, k_tuple (t := .tup) rfl, e1, e2]
  refine ok_lcY (fun x => .bl (signD x)) hs (fun d hd => ?_) ?_
  · obtain ⟨x, hx, rfl⟩ := List.mem_map.mp hd
    simp -dsimp [call1e (t_is_sign (s := s) (d := .str x) rfl)]
  · have hall := fun ρ s => all_map (xs := c.map D.str) (p := signD) (ρ := ρ) (s := s)
    rw [sign_all hc] at hall
    simp -dsimp [-List.map_map, hall]
    refine ok_lcY backD hs (fun d hd => ?_) ?_
    · obtain ⟨x, hx, rfl⟩ := List.mem_map.mp hd
      simp -dsimp [turn_look (hc x hx), backD]
    · have e : (c.map D.str).map backD = (c.map backS).map D.str := by
        rw [List.map_map, List.map_map]
        rfl
      rw [e]
      simp -dsimp [-List.map_map, Rt, cellD]
theorem tup_or {s : List Cl} {d : D} {t : Ty} (h : tyP s d = some t) : (t = .tup ∧ ∃ xs, d = .tup xs) ∨ (t ≠ .tup ∧ ∀ xs, d ≠ .tup xs) := by
  cases d <;> first
    | (cases h; exact .inl ⟨rfl, _, rfl⟩)
    | (cases h; exact .inr ⟨fun q => (by cases q), fun xs q => (by cases q)⟩)
    | (cases h; done)
    | skip
  exact .inr ⟨fun q => (by rcases ref_ty h with h | h <;> (rw [h] at q; cases q)), fun xs q => (by cases q)⟩
theorem x_turned {s : List Cl} {d : D} (hd : PlainV s d) (h : cellOk d = false) : X1 d_turned [d] s "InvalidCell" d := by
  obtain ⟨⟨t, ht⟩, hi⟩ := hd
  have h1 := fun ρ => (tyP_ty (ρ := ρ) ht).1
  have h2 := (tyP_ty (ρ := []) ht).2
  unfold d_turned
  apply x_fn
  unfold b_turned
  refine x_seq2 (x_if ?_)
  rcases tup_or ht with ⟨rfl, xs, rfl⟩ | ⟨hne, hnt⟩
  · obtain ⟨hlen, hpl⟩ := hi xs rfl
    simp -dsimp [k_tuple (t := .tup) rfl]
    by_cases c1 : 1 ≤ xs.length
    · by_cases c4 : xs.length ≤ 4
      · have e1 : (1 : Int) ≤ (xs.length : Int) := by omega
        have e2 : (xs.length : Int) ≤ 4 := by omega
        have hf : xs.all signD = false := by
          unfold cellOk at h
          simpa [c1, c4] using h
        simp -dsimp [e1, e2]
        refine ok_lcY (fun x => .bl (signD x)) (small_size (by omega)) (fun d hd => ?_) ?_
        · obtain ⟨t, ht⟩ := hpl d hd
          simp -dsimp [call1e (t_is_sign (s := s) ht)]
        · have hall := fun ρ s => all_map (xs := xs) (p := signD) (ρ := ρ) (s := s)
          rw [hf] at hall
          simp -dsimp [hall]
          refine x_raise ?_
          simp -dsimp
      · have e1 : (1 : Int) ≤ (xs.length : Int) := by omega
        have e2 : ¬ (xs.length : Int) ≤ 4 := by omega
        simp -dsimp [e1, e2]
        refine x_raise ?_
        simp -dsimp
    · have e1 : ¬ (1 : Int) ≤ (xs.length : Int) := by omega
      simp -dsimp [e1]
      refine x_raise ?_
      simp -dsimp
  · have hk : kitT "tuple" cls t = some false := by
      rw [k_tuple h2]
      cases t <;> first | rfl | exact absurd rfl hne
    simp -dsimp [h1, hk]
    refine x_raise ?_
    simp -dsimp
end Lw
set_option Elab.async false
set_option linter.all false
set_option maxRecDepth 100000
set_option maxHeartbeats 4000000
namespace Lw
open PySem L2 DL DP
section
variable {s : List Cl} {bs : List Str} {form later earlier d : D} {turn : Int}
theorem t_lturned_ok {c : List Str} (ht : turn = 0 ∨ turn = 1) (h1 : 1 ≤ c.length) (h4 : c.length ≤ 4) (hc : ∀ g ∈ c, g ∈ signs) : V1 d__law_turned [cellD c, .int turn] s fun e s' => e = .f (.lst [.str "told", cellD (c.map backS)]) ∧ s' = s := by
  have h2 : 2 ≤ sizeLine := small_size (by omega)
  have hw := t_turned_ok (s := s) h1 h4 hc
  have p1 : ∀ d ρ s, pickM [0] 1 [.v d] ρ s = .ok [.v d] ρ s := fun _ _ _ => rfl
  unfold d__law_turned
  refine fn_val ?_
  unfold b__law_turned
  refine ok_try ?_
  generalize cellD (c.map backS) = r at *
  generalize cellD c = cc at *
  rcases ht with rfl | rfl
  · simp -dsimp [call1e hw, Rt, h2]
  · simp -dsimp [call1e hw, p1, Rt, h2]
theorem t_lturned_x (ht : turn = 0 ∨ turn = 1) (hd : PlainV s d) (h : cellOk d = false) : V1 d__law_turned [d, .int turn] s fun e s' => e = .f (.lst [.str "cell", d, .bl true]) ∧ s' = s := by
  have hx := x_turned hd h
  have p1 : ∀ d ρ s, pickM [0] 1 [.v d] ρ s = .ok [.v d] ρ s := fun _ _ _ => rfl
  have body : Xc ((sRet (eLst (aCons (M.bind (eC (.str ("told" : Str))) frz) (aCons (M.bind (eIf (tB (eBin gEq (eVar 1) (eC (.int 0)))) (M.bind (esCons (eFz (eVar 0)) esNil) (gCall 1 d_turned)) (M.bind (M.bind (esCons (eFz (eVar 0)) esNil) (pickM [0] 1)) (gCall 1 d_turned))) frz) aNil)))) [.val d, .val (.int turn), .no] s) "InvalidCell" d (fun ρ => ρ = [.val d, .val (.int turn), .no]) s := by
    refine x_ret (x_eLst (x_cons1 ?_))
    simp -dsimp
    refine x_cons2 (x_bind2 (x_eIf (α := Nat) ?_))
    rcases ht with rfl | rfl
    · simp -dsimp
      refine x_bind1 ?_
      simp -dsimp
      exact x_call [d] hx rfl
    · simp -dsimp
      refine x_bind1 ?_
      simp -dsimp [p1]
      exact x_call [d] hx rfl
  obtain ⟨ρ1, hb, rfl⟩ := body
  unfold d__law_turned
  refine fn_val ?_
  unfold b__law_turned
  refine ok_tryX hb (by decide +kernel) ?_
  rw [goH_hit (by decide +kernel) (by decide +kernel), hdL_three]
  refine ok_hd rfl ?_
  simp -dsimp [okSl, noLF, noL, Rt]
/-! ### cell -/
theorem plain_ints {xs : List Int} (hx : xs.length ≤ 1000) : PlainV s (.tup (xs.map D.int)) :=
  ⟨⟨_, rfl⟩, fun ys e => by
    cases e
    refine ⟨by rw [List.length_map]; exact hx, fun x hx => ?_⟩
    obtain ⟨i, _, rfl⟩ := List.mem_map.mp hx
    exact ⟨_, rfl⟩⟩
theorem row_ints {xs : List Int} {n : Nat} (h : xs.length = n) : rowOk n (.tup (xs.map D.int)) = true := by
  show ((xs.map D.int).length == n && (xs.map D.int).all isIntD) = true
  rw [Bool.and_eq_true, beq_iff_eq, List.all_eq_true]
  exact ⟨by rw [List.length_map]; exact h, fun x hx => by obtain ⟨i, _, rfl⟩ := List.mem_map.mp hx; rfl⟩
theorem row_of {n : Nat} (h : rowOk n d = true) : ∃ xs : List Int, d = .tup (xs.map D.int) ∧ xs.length = n := by
  cases d with
  | tup ys =>
    have h : (ys.length == n && ys.all isIntD) = true := h
    rw [Bool.and_eq_true, beq_iff_eq, List.all_eq_true] at h
    obtain ⟨h1, h2⟩ := h
    have key : ∀ ys : List D, (∀ x ∈ ys, isIntD x = true) → ∃ xs : List Int, ys = xs.map D.int := by
      intro ys
      induction ys with
      | nil => intro _; exact ⟨[], rfl⟩
      | cons y ys ih =>
        intro h
        obtain ⟨xs, rfl⟩ := ih fun x hx => h x (List.mem_cons_of_mem _ hx)
        have := h y List.mem_cons_self
        cases y <;> first | (cases this; done) | exact ⟨_ :: xs, rfl⟩
    obtain ⟨xs, rfl⟩ := key ys h2
    exact ⟨xs, rfl, by simpa using h1⟩
  | _ => cases h
theorem t_pcell (hF : FormV bs form) {xs ys : List Int} (hx : xs.length = bs.length) (hy : ys.length = bs.length) (hb : bs.length ≤ 4) : E1 d_cell [form, .tup (xs.map D.int), .tup (ys.map D.int)] s (cellD (cellS xs ys)) := by
  have h1 := t_check_row (s := s) hF (plain_ints (xs := xs) (by omega))
  rw [if_pos (row_ints hx)] at h1
  have h2 := t_check_row (s := s) hF (plain_ints (xs := ys) (by omega))
  rw [if_pos (row_ints hy)] at h2
  have h3 := t_cell_of (s := s) (xs := xs) (ys := ys) (by omega)
  unfold d_cell
  refine fn_e ?_
  unfold b_cell
  simp -dsimp [call2e h1, call2e h2, call2e h3, Rt, cellD]
theorem x_cell1 (hF : FormV bs form) (hd : PlainV s later) (h : rowOk bs.length later = false) : X1 d_cell [form, later, earlier] s "InvalidRow" later := by
  have h1 := t_check_row (s := s) hF hd
  rw [if_neg (by rw [h]; decide)] at h1
  unfold d_cell
  refine x_fn ?_
  unfold b_cell
  refine x_seq2 (x_drop (x_bind1 ?_))
  simp -dsimp
  exact x_call [form, later] h1 (Nat.le_refl 3)
theorem x_cell2 (hF : FormV bs form) {xs : List Int} (hx : xs.length = bs.length) (hb : bs.length ≤ 4) (hd : PlainV s earlier) (h : rowOk bs.length earlier = false) : X1 d_cell [form, .tup (xs.map D.int), earlier] s "InvalidRow" earlier := by
  have h1 := t_check_row (s := s) hF (plain_ints (xs := xs) (by omega))
  rw [if_pos (row_ints hx)] at h1
  have h2 := t_check_row (s := s) hF hd
  rw [if_neg (by rw [h]; decide)] at h2
  unfold d_cell
  refine x_fn ?_
  unfold b_cell
  refine x_seq1 ?_
  simp -dsimp [call2e h1]
  refine x_seq2 (x_drop (x_bind1 ?_))
  simp -dsimp
  exact x_call [form, earlier] h2 (Nat.le_refl 3)
theorem t_lcell (ht : turn = 0 ∨ turn = 1) (hF : FormV bs form) {xs ys : List Int} (hx : xs.length = bs.length) (hy : ys.length = bs.length) (hb : bs.length ≤ 4) :
    V1 d__law_cell_of [form, .tup (xs.map D.int), .tup (ys.map D.int), .int turn] s fun e s' => e = .f (.lst [.str "told", cellD (cellS xs ys)]) ∧ s' = s := by
  have h2 : 2 ≤ sizeLine := small_size (by omega)
  have hw := t_pcell (s := s) hF hx hy hb
  have p1 : ∀ a b c ρ s, pickM [1, 2, 0] 3 [.v a, .v b, .v c] ρ s = .ok [.v b, .v c, .v a] ρ s := fun _ _ _ _ _ => rfl
  unfold d__law_cell_of
  refine fn_val ?_
  unfold b__law_cell_of
  refine ok_try ?_
  generalize cellD (cellS xs ys) = r at *
  rcases ht with rfl | rfl
  · simp -dsimp [call3e hw, Rt, h2]
  · simp -dsimp [call3e hw, p1, Rt, h2]
theorem t_lcell_x (ht : turn = 0 ∨ turn = 1) (hx : X1 d_cell [form, later, earlier] s "InvalidRow" d) :
    V1 d__law_cell_of [form, later, earlier, .int turn] s fun e s' => e = .f (.lst [.str "row", d, .bl true]) ∧ s' = s := by
  have p1 : ∀ a b c ρ s, pickM [1, 2, 0] 3 [.v a, .v b, .v c] ρ s = .ok [.v b, .v c, .v a] ρ s := fun _ _ _ _ _ => rfl
  have body : Xc ((sSeq (sIf (tB (eBin gEq (eVar 3) (eC (.int 0)))) (sRet (eLst (aCons (M.bind (eC (.str ("told" : Str))) frz) (aCons (M.bind (M.bind (esCons (eFz (eVar 0)) (esCons (eFz (eVar 1)) (esCons (eFz (eVar 2)) esNil))) (gCall 3 d_cell)) frz) aNil)))) sNx) (sRet (eLst (aCons (M.bind (eC (.str ("told" : Str))) frz) (aCons (M.bind (M.bind (M.bind (esCons (eFz (eVar 2)) (esCons (eFz (eVar 0)) (esCons (eFz (eVar 1)) esNil))) (pickM [1, 2, 0] 3)) (gCall 3 d_cell)) frz) aNil))))) [.val form, .val later, .val earlier, .val (.int turn), .no] s) "InvalidRow" d (fun ρ => ρ = [.val form, .val later, .val earlier, .val (.int turn), .no]) s := by
    rcases ht with rfl | rfl
    · refine x_seq2 (x_if ?_)
      simp -dsimp
      refine x_ret (x_eLst (x_cons1 ?_))
      simp -dsimp
      refine x_cons2 (x_bind2 (x_bind1 ?_))
      simp -dsimp
      exact x_call [form, later, earlier] hx rfl
    · refine x_seq1 ?_
      simp -dsimp
      refine x_ret (x_eLst (x_cons1 ?_))
      simp -dsimp
      refine x_cons2 (x_bind2 (x_bind1 ?_))
      simp -dsimp [p1]
      exact x_call [form, later, earlier] hx rfl
  obtain ⟨ρ1, hb, rfl⟩ := body
  unfold d__law_cell_of
  refine fn_val ?_
  unfold b__law_cell_of
  refine ok_tryX hb (by decide +kernel) ?_
  rw [goH_hit (by decide +kernel) (by decide +kernel), hdL_three]
  refine ok_hd rfl ?_
  simp -dsimp [okSl, noLF, noL, Rt]
end
end Lw
set_option Elab.async false
set_option linter.all false
set_option maxRecDepth 100000
set_option maxHeartbeats 4000000
namespace Lw
open PySem L2 DL DP
theorem sz20 : Sz 67 100000000000000000000 := by show (100000000000000000000 : Int).natAbs < 2 ^ 67; decide
theorem sz_lt20 {i : Int} (h : 0 ≤ i) (h2 : i < 100000000000000000000) : Sz 67 i := by
  unfold Sz
  omega
theorem t_whole {n : Nat} {s : List Cl} {k : Int} (h : Bx n k s) (hk : k < 2 ^ 30) : V1 d__law_whole [.ref n] s fun e s' => (∃ i, e = .v (.int i) ∧ Sz 150 i) ∧ Bx n (k + 3) s' ∧ DP.Same n s s' := by
  have e20 : ((10 : Int) ^ (Int.toNat 20)) = 100000000000000000000 := rfl
  have h2 : 2 ≤ sizeLine := Lw.small_size (by omega)
  unfold d__law_whole
  refine fn_val ?_
  unfold b__law_whole
  simp -dsimp
  refine ok_call2 ((t_take h (by omega) (by omega) (by omega)).mono ?_)
  rintro e s1 ⟨⟨way, rfl, w0, w1⟩, B1, S1⟩
  by_cases hw : way < 3
  · simp -dsimp [hw]
    refine ok_call2 ((t_take B1 (by omega) (by omega) (by omega)).mono ?_)
    rintro e s2 ⟨⟨v, rfl, v0, v1⟩, B2, S2⟩
    simp -dsimp [Rt]
    exact ⟨(Sz.of64 (by omega) (by omega)).mono (by decide), B2.up (by omega), S1.trans S2⟩
  · simp -dsimp [hw, e20]
    refine ok_call2 ((t_take B1 (by omega) (by omega) (by omega)).mono ?_)
    rintro e s2 ⟨⟨v, rfl, v0, v1⟩, B2, S2⟩
    have z1 := sz_lt20 v0 v1
    have hm := z1.mulW sz20 (by omega) (by omega)
    simp -dsimp [hm]
    refine ok_call2 ((t_take B2 (by omega) (by omega) (by omega)).mono ?_)
    rintro e s3 ⟨⟨u, rfl, u0, u1⟩, B3, S3⟩
    have z2 : Sz 150 (v * 100000000000000000000 + u) := ((z1.mul sz20).add ((sz_lt20 u0 (by omega)).mono (by omega))).mono (by decide)
    have hc : way = 3 ∨ way = 4 := by omega
    rcases hc with rfl | rfl
    · simp -dsimp [h2, atI, ixN, Rt]
      exact ⟨z2, B3.up (by omega), (S1.trans S2).trans S3⟩
    · simp -dsimp [h2, atI, ixN, Rt]
      exact ⟨z2.neg, B3.up (by omega), (S1.trans S2).trans S3⟩
def stepsL : List Int := [0, 1, -1, 0, 3, -7]
def nearD : D → D
  | .tup [.int a, .int b] => .int (a + (atI stepsL b).getD 0)
  | d => d
theorem steps_at {v : Int} (h0 : 0 ≤ v) (h1 : v < 6) : ∃ i, atI [D.int 0, .int 1, .int (-1), .int 0, .int 3, .int (-7)] v = some (.int i) ∧ atI stepsL v = some i ∧ -8 < i ∧ i < 8 := by
  have hc : v = 0 ∨ v = 1 ∨ v = 2 ∨ v = 3 ∨ v = 4 ∨ v = 5 := by omega
  rcases hc with rfl | rfl | rfl | rfl | rfl | rfl
  · exact ⟨0, rfl, rfl, by decide, by decide⟩
  · exact ⟨1, rfl, rfl, by decide, by decide⟩
  · exact ⟨-1, rfl, rfl, by decide, by decide⟩
  · exact ⟨0, rfl, rfl, by decide, by decide⟩
  · exact ⟨3, rfl, rfl, by decide, by decide⟩
  · exact ⟨-7, rfl, rfl, by decide, by decide⟩
theorem t_near {n : Nat} {s : List Cl} {k : Int} {vs : List Int} (h : Bx n k s) (hk : k < 2 ^ 30) (hl : vs.length ≤ 4) (hs : ∀ v ∈ vs, Sz 150 v) :
    V1 d__law_near [.ref n, .tup (vs.map D.int)] s fun e s' => (∃ ws : List Int, e = .v (.tup (ws.map D.int)) ∧ ws.length = vs.length ∧ ∀ w ∈ ws, Sz 160 w) ∧ Bx n (k + 4) s' ∧ DP.Same n s s' := by
  have h6 : 6 ≤ sizeLine := Lw.small_size (by omega)
  unfold d__law_near
  refine fn_val ?_
  unfold b__law_near
  simp -dsimp
  refine ok_lcD (fun acc rest ρ s2 => (∃ us : List Int, acc = us.map D.int ∧ us.length + rest.length = vs.length ∧ (∀ u ∈ us, 0 ≤ u ∧ u < 6) ∧ Bx n (k + us.length) s2) ∧ ρ = [.val (.ref n), .val (.tup (vs.map D.int)), .no, .no, .no] ∧ DP.Same n s s2) ?_ ?_ _ [] _ _
    ⟨⟨[], rfl, by simp, (fun u hu => by cases hu), h.up (by simp)⟩, rfl, DP.Same.refl⟩
  · rintro d rest acc ρ s2 ⟨⟨us, rfl, hul, hus, B2⟩, rfl, S2⟩
    have hu4 : us.length < 4 := by simp at hul; omega
    have hz : us.length < sizeLine := Nat.lt_of_lt_of_le hu4 (Lw.small_size (by omega))
    simp -dsimp
    refine ok_call2 ((t_take B2 (by omega) (by omega) (by omega)).mono ?_)
    rintro e s3 ⟨⟨u, rfl, u0, u1⟩, B3, S3⟩
    simp -dsimp [hz]
    refine ⟨⟨us ++ [u], by simp, by simp at hul ⊢; omega, fun x hx => ?_, B3.up (by simp; omega)⟩, S2.trans S3⟩
    rcases List.mem_append.mp hx with hx | hx
    · exact hus x hx
    · rw [List.mem_singleton.mp hx]; exact ⟨u0, u1⟩
  · rintro acc ρ s2 ⟨⟨us, rfl, hul, hus, B2⟩, rfl, S2⟩
    have hul : us.length = vs.length := by simpa using hul
    simp -dsimp
    refine ok_lcY (xs := zipD (vs.map D.int) (us.map D.int)) nearD (Lw.small_size (Nat.le_trans zipD_len (by rw [List.length_map]; omega))) (fun d hd => ?_) ?_
    · obtain ⟨a, ha, b, hb, rfl⟩ := zipD_mem hd
      obtain ⟨i, _, rfl⟩ := List.mem_map.mp ha
      obtain ⟨j, hj, rfl⟩ := List.mem_map.mp hb
      obtain ⟨w, hw, hw2, _, _⟩ := steps_at (hus j hj).1 (hus j hj).2
      simp -dsimp [h6, hw, nearD, hw2]
    · have key : ∀ (xs us : List Int), us.length = xs.length → (∀ u ∈ us, 0 ≤ u ∧ u < 6) → (∀ v ∈ xs, Sz 150 v) → ∃ ws : List Int, (zipD (xs.map D.int) (us.map D.int)).map nearD = ws.map D.int ∧ ws.length = xs.length ∧ ∀ w ∈ ws, Sz 160 w := by
        intro xs
        induction xs with
        | nil => intro us _ _ _; exact ⟨[], by simp [zipD], rfl, fun w hw => by cases hw⟩
        | cons x xs ih =>
          intro us hl hu hx
          cases us with
          | nil => cases hl
          | cons u us =>
            obtain ⟨ws, h1, h2, h3⟩ := ih us (by simpa using hl) (fun u h => hu u (List.mem_cons_of_mem _ h)) (fun v h => hx v (List.mem_cons_of_mem _ h))
            obtain ⟨w, _, hw2, w1, w2⟩ := steps_at (hu u List.mem_cons_self).1 (hu u List.mem_cons_self).2
            refine ⟨(x + w) :: ws, ?_, by simp [h2], fun y hy => ?_⟩
            · have e : zipD ((x :: xs).map D.int) ((u :: us).map D.int) = .tup [.int x, .int u] :: zipD (xs.map D.int) (us.map D.int) := rfl
              rw [e, List.map_cons, h1, List.map_cons]
              simp [nearD, hw2]
            · rcases List.mem_cons.mp hy with rfl | hy
              · exact ((hx x List.mem_cons_self).add ((Sz.of64 (by omega) (by omega)).mono (by decide))).mono (by decide)
              · exact h3 y hy
      obtain ⟨ws, h1, h2, h3⟩ := key vs us hul hus hs
      rw [h1]
      simp -dsimp [Rt]
      exact ⟨⟨ws, rfl, h2, h3⟩, B2.up (by omega), S2⟩
end Lw
set_option Elab.async false
set_option linter.all false
set_option maxRecDepth 100000
set_option maxHeartbeats 4000000
namespace Lw
open PySem L2 DL DP
theorem ofS_lt (x : String) : ∀ c ∈ (Str.ofString x).cps.toList, c < 0x110000 := by
  rw [Str.ofString_eq_toList]
  intro c hc
  have hc : c ∈ x.toList.map Char.toNat := by simpa using hc
  obtain ⟨k, _, rfl⟩ := List.mem_map.mp hc
  have := k.valid
  unfold UInt32.isValidChar Nat.isValidChar at this
  have : k.toNat = k.val.toNat := rfl
  omega
theorem ofS_ok (x : String) : PyData.strOk (Str.ofString x) = true := by
  unfold PyData.strOk
  rw [Array.all_eq_true']
  intro c hc
  exact decide_eq_true (ofS_lt x c (by simpa using hc))
theorem ofS_sh (x : String) : ((Str.ofString x).cps.toList.all fun c => decide (c < 16 ^ 8)) = true := by
  rw [List.all_eq_true]
  intro c hc
  have := ofS_lt x c hc
  exact decide_eq_true (by omega)
/-- a value that is no row, of no list or dict -/
structure Flat (m : Nat) (d : D) : Prop where
  pl : ∀ s, PlainV s d
  row : rowOk m d = false
  sh : Shown d
  ed : Ed 4 d
  nr : ∀ n, d ≠ .ref n
  nl : ∀ xs, d ≠ .lst xs
  nd : ∀ ks xs, d ≠ .dk ks xs
/-- a wrong row -/
def Wv (N m : Nat) (s : List Cl) (d : D) : Prop := Flat m d ∨ (∃ (a : Nat) (vs : List Int), d = .ref a ∧ N ≤ a ∧ s[a]? = some (.lst (vs.map D.int)) ∧ vs.length ≤ 4 ∧ ∀ v ∈ vs, Sz 160 v) ∨ (∃ (a : Nat) (i : Int), d = .ref a ∧ N ≤ a ∧ s[a]? = some (.dk [.inr "a"] [.int i]) ∧ Sz 160 i)
/-- an item of a tuple that is handed in -/
structure It (x : D) : Prop where
  ty : ∃ t, ∀ s, tyP s x = some t
  sh : Sh 3 250 true false x
  ed : Ed 3 x
theorem it_int {i : Int} (h : Sz 160 i) : It (.int i) := ⟨⟨_, fun s => rfl⟩, (sh_int h (by decide)).up (by decide) (by decide) (fun h => by cases h) (fun h => h), ed_int.up (by decide)⟩
def odds : List D := [.bl true, .non, .str "5", .tup [.int 5], .lst [.int 5], .bl false]
theorem one_sh {i : Int} (h : -1000000 < i) (h2 : i < 1000000) : ∀ x ∈ [D.int i], Sh 1 65 false false x := fun x hx => by
  rw [List.mem_singleton.mp hx]; exact sh_int (sz_small h h2) (by decide)
theorem odds_it : ∀ w ∈ odds, It w ∧ isIntD w = false := by
  intro w hw
  simp only [odds, List.mem_cons, List.not_mem_nil, or_false] at hw
  have i5 : ∀ x ∈ [D.int 5], Ed 1 x := fun x hx => by rw [List.mem_singleton.mp hx]; exact ed_int
  rcases hw with rfl | rfl | rfl | rfl | rfl | rfl
  · exact ⟨⟨⟨_, fun s => rfl⟩, sh_bl.up (by decide) (by decide) (fun h => by cases h) (fun h => h), ed_bl.up (by decide)⟩, rfl⟩
  · exact ⟨⟨⟨_, fun s => rfl⟩, sh_non.up (by decide) (by decide) (fun h => by cases h) (fun h => h), ed_non.up (by decide)⟩, rfl⟩
  · exact ⟨⟨⟨_, fun s => rfl⟩, (sh_str (k := 1) (by decide +kernel) (ofS_sh _)).up (by decide) (by decide) (fun h => by cases h) (fun h => h), (ed_str (ofS_ok _)).up (by decide)⟩, rfl⟩
  · exact ⟨⟨⟨_, fun s => rfl⟩, (sh_tup (by decide) (one_sh (by decide) (by decide))).up (by decide) (by decide) (fun h => by cases h) (fun h => h), (ed_tup (by decide) i5).up (by decide)⟩, rfl⟩
  · exact ⟨⟨⟨_, fun s => rfl⟩, (sh_lst (by decide) (one_sh (by decide) (by decide))).up (by decide) (by decide) (fun h => rfl) (fun h => h), (ed_lst (by decide) i5).up (by decide)⟩, rfl⟩
  · exact ⟨⟨⟨_, fun s => rfl⟩, sh_bl.up (by decide) (by decide) (fun h => by cases h) (fun h => h), ed_bl.up (by decide)⟩, rfl⟩
theorem flat_tup {m : Nat} {xs : List D} (h : ∀ x ∈ xs, It x) (hl : xs.length ≤ 9) (hr : rowOk m (.tup xs) = false) : Flat m (.tup xs) :=
  ⟨fun s => ⟨⟨_, rfl⟩, fun ys e => by cases e; exact ⟨by omega, fun x hx => let ⟨t, ht⟩ := (h x hx).ty; ⟨t, ht s⟩⟩⟩, hr,
    (sh_tup (by decide) fun x hx => (h x hx).sh).shown (by decide) (by have : (250 + 1) * xs.length ≤ 251 * 9 := Nat.mul_le_mul_left _ hl; omega) rfl,
    ed_tup (by decide) fun x hx => (h x hx).ed, (fun n q => by cases q), (fun ys q => by cases q), fun ks ys q => by cases q⟩
theorem flat_leaf {m w : Nat} {d : D} {t : Ty} (ht : ∀ s, tyP s d = some t) (hs : Sh 1 w false false d) (hw : w ≤ 8000) (he : Ed 1 d) (hn : ∀ xs, d ≠ .tup xs) (hr : rowOk m d = false) (nr : ∀ n, d ≠ .ref n) (nl : ∀ xs, d ≠ .lst xs) (nd : ∀ ks xs, d ≠ .dk ks xs) : Flat m d :=
  ⟨fun s => ⟨⟨t, ht s⟩, fun xs e => absurd e (hn _)⟩, hr, hs.shown (by decide) hw rfl, he.up (by decide), nr, nl, nd⟩
theorem row_short {m : Nat} {xs : List D} (h : xs.length ≠ m) : rowOk m (.tup xs) = false := by
  unfold rowOk
  simp [h]
theorem row_odd {m : Nat} {xs : List D} {x : D} (hx : x ∈ xs) (h : isIntD x = false) : rowOk m (.tup xs) = false := by
  show (xs.length == m && xs.all isIntD) = false
  have : xs.all isIntD = false := by
    rw [List.all_eq_false]
    exact ⟨x, hx, by simp [h]⟩
  rw [this, Bool.and_false]
def swapD (p : Int) (odd : D) : D → D
  | .tup [.int k, x] => if k = p then odd else x
  | d => d
theorem swap_mem {vs : List Int} {p : Int} {odd : D} (hp0 : 0 ≤ p) (hp1 : p < vs.length) : (∀ x ∈ (enumD (vs.map D.int)).map (swapD p odd), x = odd ∨ ∃ v ∈ vs, x = .int v) ∧ odd ∈ (enumD (vs.map D.int)).map (swapD p odd) := by
  refine ⟨fun x hx => ?_, ?_⟩
  · obtain ⟨y, hy, rfl⟩ := List.mem_map.mp hx
    obtain ⟨i, z, rfl, hz⟩ := enumD_mem hy
    obtain ⟨v, hv, rfl⟩ := List.mem_map.mp (List.mem_of_getElem? hz)
    by_cases h : (i : Int) = p
    · left; simp [swapD, h]
    · right; exact ⟨v, hv, by simp [swapD, h]⟩
  · obtain ⟨q, rfl⟩ := Int.eq_ofNat_of_zero_le hp0
    have hq : q < vs.length := by omega
    have hg : (vs.map D.int)[q]? = some (.int vs[q]) := by rw [List.getElem?_map, List.getElem?_eq_getElem hq]; rfl
    have he := enumD_get hg
    exact List.mem_map.mpr ⟨_, List.mem_of_getElem? he, by simp [swapD]⟩
theorem strI {i : Int} {ρ : List Sl} {s : List Cl} (h : Sz 160 i) : gStrI [.v (.int i)] ρ s = .ok (.v (.str (toString i))) ρ s := by
  have hl : i.natAbs.log2 < 1920 := by
    by_cases z : i.natAbs = 0
    · rw [z]; decide
    · exact Nat.lt_of_lt_of_le ((Nat.log2_lt z).mpr h) (by decide)
  show (if i.natAbs.log2 < 1920 then R.ok (E.v (.str (toString i))) ρ s else .no) = _
  rw [if_pos hl]
theorem flat_stri {m : Nat} {i : Int} (h : Sz 160 i) : Flat m (.str (toString i)) := by
  have hl : i.natAbs.log2 < 1920 := by
    by_cases z : i.natAbs = 0
    · rw [z]; decide
    · exact Nat.lt_of_lt_of_le ((Nat.log2_lt z).mpr h) (by decide)
  exact flat_leaf (t := .str) (fun s => rfl) (sh_str (k := 1921) (PyProof.Rows.int_text_len_1921 hl) (ofS_sh _)) (by decide) (ed_str (ofS_ok _)) (fun xs q => by cases q) rfl (fun n q => by cases q) (fun xs q => by cases q) (fun ks xs q => by cases q)
theorem t_no_row {f : M E} (hf : f = d__law_no_row) {n : Nat} {s : List Cl} {k shift : Int} {vs : List Int} (h : Bx n k s) (hk : k < 2 ^ 30) (h1 : 1 ≤ vs.length) (h4 : vs.length ≤ 4) (hs : ∀ v ∈ vs, Sz 160 v) :
    V1 f [.ref n, .tup (vs.map D.int), .int shift] s fun e s' => (∃ d, e = .v d ∧ Wv s.length vs.length s' d) ∧ Bx n (k + 3) s' ∧ Up n s s' := by
  have h6 : 6 ≤ sizeLine := Lw.small_size (by omega)
  have hone : 1 ≤ sizeLine := Lw.small_size (by omega)
  have h44 : 4 ≤ sizeLine := Lw.small_size (by omega)
  have h5 : 5 ≤ sizeLine := Lw.small_size (by omega)
  have h9 : 9 ≤ sizeLine := Lw.small_size (by omega)
  have hv1 : vs.length + 1 ≤ sizeLine := Lw.small_size (by omega)
  rw [hf]
  unfold d__law_no_row
  refine fn_val ?_
  unfold b__law_no_row
  simp -dsimp
  refine ok_call2 ((t_take h (by omega) (by omega) (by omega)).mono ?_)
  rintro e s1 ⟨⟨pl, rfl, p0, p1⟩, B1, S1⟩
  simp -dsimp
  refine ok_call2 ((t_take B1 (by omega) (by omega) (by omega)).mono ?_)
  rintro e s2 ⟨⟨wy, rfl, w0, w1⟩, B2, S2⟩
  simp -dsimp [h6, hone]
  have y0 : 0 ≤ (wy + shift) % 9 := Int.emod_nonneg _ (by decide)
  have y1 : (wy + shift) % 9 < 9 := Int.emod_lt_of_pos _ (by decide)
  have h2 : 2 ≤ sizeLine := Lw.small_size (by omega)
  simp -dsimp [h2]
  refine ok_call2 ((t_take B2 (by omega) (by omega) (by omega)).mono ?_)
  rintro e s3 ⟨⟨u, rfl, u0, u1⟩, B3, S3⟩
  obtain ⟨odd, hodd, hat⟩ := DP.at_mem (xs := odds) u0 u1
  obtain ⟨oit, oni⟩ := odds_it odd hodd
  have hat' : atI [D.bl true, .non, .str (Str.ofString "5"), .tup [.int 5], .lst [.int 5], .bl false] u = some odd := hat
  have it_all : ∀ x ∈ vs.map D.int, It x := fun x hx => by
    obtain ⟨z, hz, rfl⟩ := List.mem_map.mp hx
    exact it_int (hs z hz)
  obtain ⟨v0, vr, hv⟩ : ∃ v0 vr, vs = v0 :: vr := by
    cases vs with
    | nil => simp at h1
    | cons a b => exact ⟨a, b, rfl⟩
  have hv0 : Sz 160 v0 := hs v0 (by rw [hv]; exact List.mem_cons_self)
  have hat0 : atI (vs.map D.int) 0 = some (.int v0) := by rw [hv]; exact DP.atI_nat (xs := (v0 :: vr).map D.int) (p := 0) (by simp)
  have hst := fun ρ s => strI (ρ := ρ) (s := s) hv0
  have swm := swap_mem (odd := odd) p0 p1
  generalize hway : (wy + shift) % 9 = way at *
  simp -dsimp [hat', hv1, h44, hone]
  refine ok_lcY (xs := enumD (vs.map D.int)) (swapD pl odd) (Lw.small_size (by rw [enumD_length, List.length_map]; omega)) (fun y hy => ?_) ?_
  · obtain ⟨i, z, rfl, hz⟩ := enumD_mem hy
    by_cases hi : (i : Int) = pl
    · simp -dsimp [hi, swapD]
    · simp -dsimp [hi, swapD]
  · have S3' := (S1.trans S2).trans S3
    have hlen3 : s3.length = s.length := S3'.len
    have U3 : Up n s s3 := Up.same S3'
    have U5 : ∀ c1 c2 : Cl, Up n s (s3 ++ [c1] ++ [c2]) := fun c1 c2 => (U3.trans Up.app).trans Up.app
    have B5 : ∀ c1 c2 : Cl, Bx n (k + 3) (s3 ++ [c1] ++ [c2]) := fun c1 c2 => bx_app (bx_app (B3.up (by omega)))
    simp -dsimp [hat0, hst, h44, h5, h9, hone]
    have U5' : ∀ c1 c2 : Cl, Up n s (s3 ++ [c1, c2]) := fun c1 c2 => by have := U5 c1 c2; rwa [List.append_assoc] at this
    have B5' : ∀ c1 c2 : Cl, Bx n (k + 3) (s3 ++ [c1, c2]) := fun c1 c2 => by have := B5 c1 c2; rwa [List.append_assoc] at this
    have hc : way = 0 ∨ way = 1 ∨ way = 2 ∨ way = 3 ∨ way = 4 ∨ way = 5 ∨ way = 6 ∨ way = 7 ∨ way = 8 := by omega
    rcases hc with rfl | rfl | rfl | rfl | rfl | rfl | rfl | rfl | rfl
    · simp -dsimp [atI, ixN, Rt]
      exact ⟨.inr (.inl ⟨_, vs, rfl, by omega, by simp, h4, hs⟩), B5' _ _, U5' _ _⟩
    · simp -dsimp [atI, ixN, Rt]
      refine ⟨.inl (flat_tup (fun x hx => ?_) (by simp; omega) (row_short (by simp))), B5' _ _, U5' _ _⟩
      rcases List.mem_append.mp hx with hx | hx
      · exact it_all x hx
      · rw [List.mem_singleton.mp hx]; exact it_int ((sz_small (by decide) (by decide)).mono (by decide))
    · simp -dsimp [atI, ixN, Rt]
      refine ⟨.inl (flat_tup (fun x hx => it_all x (DP.cutD_mem hx)) (Nat.le_trans DP.cutD_len (by simp; omega)) (row_short ?_)), B5' _ _, U5' _ _⟩
      unfold cutD
      have e1 : HT.sIx (vs.map D.int).length 0 none = 0 := rfl
      have e2 : HT.sIx (vs.map D.int).length (vs.map D.int).length (some (-1)) = vs.length - 1 := by
        rw [List.length_map]
        show (if (-1 : Int) < 0 then ((-1 : Int) + (vs.length : Int)).toNat else min (-1 : Int).toNat vs.length) = _
        rw [if_pos (by omega)]
        omega
      rw [e1, e2, List.drop_zero, List.length_take, List.length_map]
      omega
    · simp -dsimp [atI, ixN, Rt]
      refine ⟨.inl (flat_tup (fun x hx => ?_) (by rw [List.length_map, enumD_length, List.length_map]; omega) (row_odd swm.2 oni)), B5' _ _, U5' _ _⟩
      rcases swm.1 x hx with rfl | ⟨v, hv, rfl⟩
      · exact oit
      · exact it_int (hs v hv)
    · simp -dsimp [atI, ixN, Rt]
      exact ⟨.inl (flat_leaf (t := .non) (fun s => rfl) sh_non (by decide) ed_non (fun xs q => by cases q) rfl (fun n q => by cases q) (fun xs q => by cases q) (fun ks xs q => by cases q)), B5' _ _, U5' _ _⟩
    · simp -dsimp [atI, ixN, Rt]
      exact ⟨.inl (flat_leaf (t := .int) (fun s => rfl) (sh_int hv0 (by decide)) (by decide) ed_int (fun xs q => by cases q) rfl (fun n q => by cases q) (fun xs q => by cases q) (fun ks xs q => by cases q)), B5' _ _, U5' _ _⟩
    · simp -dsimp [atI, ixN, Rt]
      exact ⟨.inl (flat_stri hv0), B5' _ _, U5' _ _⟩
    · simp -dsimp [atI, ixN, Rt]
      exact ⟨.inr (.inr ⟨_, v0, rfl, by omega, by simp [kS], hv0⟩), B5' _ _, U5' _ _⟩
    · simp -dsimp [atI, ixN, Rt]
      refine ⟨.inl ⟨fun s => ⟨⟨_, rfl⟩, fun ys e => by cases e; exact ⟨by simp, fun x hx => by rw [List.mem_singleton.mp hx]; exact ⟨_, rfl⟩⟩⟩, row_odd (List.mem_singleton.mpr rfl) rfl, ?_, ?_, (fun n q => by cases q), (fun xs q => by cases q), fun ks xs q => by cases q⟩, B5' _ _, U5' _ _⟩
      · refine (sh_tup (n := 2) (w := 162 * vs.length) (b := false) (g := false) (by decide) fun x hx => ?_).shown (by decide) ?_ rfl
        · rw [List.mem_singleton.mp hx]
          have := sh_tup (n := 1) (w := 161) (b := false) (g := false) (xs := vs.map D.int) (by decide) fun x hx => by
            obtain ⟨z, hz, rfl⟩ := List.mem_map.mp hx
            exact sh_int (hs z hz) (by decide)
          simpa using this
        · simp
          omega
      · refine (ed_tup (n := 2) (by decide) fun x hx => ?_).up (by decide)
        rw [List.mem_singleton.mp hx]
        exact ed_tup (by decide) fun x hx => by obtain ⟨z, hz, rfl⟩ := List.mem_map.mp hx; exact ed_int
end Lw
set_option Elab.async false
set_option linter.all false
set_option maxRecDepth 100000
set_option maxHeartbeats 4000000
namespace Lw
open PySem L2 DL DP
section
variable {N m : Nat} {s s' : List Cl} {d : D} {t : Ty}
theorem flat_ty (h : Flat m d) (ht : tyP s d = some t) : t ≠ .lst ∧ t ≠ .dct := by
  cases d <;> first
    | (cases ht; done)
    | exact absurd rfl (h.nl _)
    | exact absurd rfl (h.nd _ _)
    | exact absurd rfl (h.nr _)
    | (cases ht; exact ⟨fun q => (by cases q), fun q => (by cases q)⟩)
theorem ints_shown {vs : List Int} (hl : vs.length ≤ 4) (hs : ∀ v ∈ vs, Sz 160 v) : Shown (.lst (vs.map D.int)) :=
  (sh_lst (n := 1) (w := 161) (g := false) (by decide) fun x hx => by
    obtain ⟨z, hz, rfl⟩ := List.mem_map.mp hx
    exact sh_int (hs z hz) (by decide)).shown (by decide) (by rw [List.length_map]; omega) rfl
theorem sh_word (x : String) (k : Nat) (h : (Str.ofString x).cps.size ≤ k) : Sh 1 k false false (.str (Str.ofString x)) := sh_str h (ofS_sh x)
theorem ints_grown {vs : List Int} (hl : vs.length ≤ 4) (hs : ∀ v ∈ vs, Sz 160 v) : Shown (.lst (.str "grown" :: vs.map D.int)) :=
  (sh_lst (n := 1) (w := 161) (b := false) (g := false) (by decide) fun x hx => by
    rcases List.mem_cons.mp hx with rfl | hx
    · exact sh_word "grown" 161 (by decide +kernel)
    · obtain ⟨z, hz, rfl⟩ := List.mem_map.mp hx
      exact sh_int (hs z hz) (by decide)).shown (by decide) (by rw [List.length_cons, List.length_map]; omega) rfl
theorem dk_shown {i : Int} (h : Sz 160 i) : Shown (.dk [.inr "a"] [.int i]) :=
  (sh_dk (n := 1) (w := 161) (kw := 5) (b := false) (g := false) (ks := ["a"]) (xs := [.int i]) (by decide) rfl (fun k hk => by rw [List.mem_singleton.mp hk]; exact ⟨by decide +kernel, ofS_sh _⟩) fun x hx => by
    rw [List.mem_singleton.mp hx]; exact sh_int h (by decide)).shown (by decide) (by simp) rfl
theorem dk_grown {i : Int} (h : Sz 160 i) : Shown (.dk [.inr "a", .inr "grown"] [.int i, .int 1]) :=
  (sh_dk (n := 1) (w := 161) (kw := 5) (b := false) (g := false) (ks := ["a", "grown"]) (xs := [.int i, .int 1]) (by decide) rfl (fun k hk => by
      simp only [List.mem_cons, List.not_mem_nil, or_false] at hk
      rcases hk with rfl | rfl
      · exact ⟨by decide +kernel, ofS_sh _⟩
      · exact ⟨by decide +kernel, ofS_sh _⟩) fun x hx => by
    simp only [List.mem_cons, List.not_mem_nil, or_false] at hx
    rcases hx with rfl | rfl
    · exact sh_int h (by decide)
    · exact (sh_int (sz_small (by decide) (by decide)) (by decide)).up (by decide) (by decide) (fun h => h) fun h => h).shown (by decide) (by simp) rfl
theorem Wv.plain (h : Wv N m s d) : PlainV s d := by
  rcases h with h | ⟨a, vs, rfl, _, h, _⟩ | ⟨a, i, rfl, _, h, _⟩
  · exact h.pl s
  · refine ⟨⟨.lst, ?_⟩, fun xs e => by cases e⟩
    show (match s[a]? with | some (.lst _) => some Ty.lst | some (.dk _ _) => some Ty.dct | _ => none) = _
    rw [h]
  · refine ⟨⟨.dct, ?_⟩, fun xs e => by cases e⟩
    show (match s[a]? with | some (.lst _) => some Ty.lst | some (.dk _ _) => some Ty.dct | _ => none) = _
    rw [h]
theorem Wv.row (h : Wv N m s d) : rowOk m d = false := by
  rcases h with h | ⟨a, vs, rfl, _, h, _⟩ | ⟨a, i, rfl, _, h, _⟩
  · exact h.row
  · rfl
  · rfl
theorem Wv.repr (h : Wv N m s d) : ∃ x, ∀ ρ, gRepr [.v d] ρ s = .ok (.v (.str x)) ρ s := by
  rcases h with h | ⟨a, vs, rfl, _, h, hl, hs⟩ | ⟨a, i, rfl, _, h, hs⟩
  · exact ⟨_, fun ρ => rs_v h.sh⟩
  · exact ⟨_, fun ρ => rs_ref h rfl (ints_shown hl hs)⟩
  · exact ⟨_, fun ρ => rs_ref h rfl (dk_shown hs)⟩
/-- it stands where its own thing stands -/
theorem Wv.keep (h : Wv N m s d) (k : ∀ a, d = .ref a → s'[a]? = s[a]?) : Wv N m s' d := by
  rcases h with h | ⟨a, vs, rfl, hN, h, hl, hs⟩ | ⟨a, i, rfl, hN, h, hs⟩
  · exact .inl h
  · exact .inr (.inl ⟨a, vs, rfl, hN, by rw [k a rfl]; exact h, hl, hs⟩)
  · exact .inr (.inr ⟨a, i, rfl, hN, by rw [k a rfl]; exact h, hs⟩)
theorem Wv.low {N' : Nat} (h : Wv N m s d) (hn : N' ≤ N) : Wv N' m s d := by
  rcases h with h | ⟨a, vs, rfl, hN, h, hl, hs⟩ | ⟨a, i, rfl, hN, h, hs⟩
  · exact .inl h
  · exact .inr (.inl ⟨a, vs, rfl, by omega, h, hl, hs⟩)
  · exact .inr (.inr ⟨a, i, rfl, by omega, h, hs⟩)
theorem Wv.ge (h : Wv N m s d) {a : Nat} (e : d = .ref a) : N ≤ a ∧ a < s.length := by
  rcases h with h | ⟨b, vs, rfl, hN, h, hl, hs⟩ | ⟨b, i, rfl, hN, h, hs⟩
  · exact absurd e (h.nr a)
  · cases e; exact ⟨hN, (List.getElem?_eq_some_iff.mp h).1⟩
  · cases e; exact ⟨hN, (List.getElem?_eq_some_iff.mp h).1⟩
/-- nothing but the thing of d has changed -/
structure But (d : D) (s s' : List Cl) : Prop where
  len : s'.length = s.length
  oth : ∀ a, d ≠ .ref a → s'[a]? = s[a]?
theorem But.refl : But d s s := ⟨rfl, fun _ _ => rfl⟩
theorem But.set {a : Nat} {c : Cl} : But (.ref a) s (s.set a c) := ⟨List.length_set .., fun b hb => List.getElem?_set_ne (fun e => hb (by rw [e]))⟩
theorem ins_dk {i : Int} : putG [((.inr "a" : Key), D.int i)] (.inr "grown") (.int 1) = [(.inr "a", .int i), (.inr "grown", .int 1)] := by
  have h : ¬ ((Sum.inr (Str.ofString "a") : Key) = Sum.inr (Str.ofString "grown")) := by decide +kernel
  unfold putG
  simp [h]
theorem t_very (h : Wv N m s d) : V1 d__law_very [d, d] s fun e s' => e = .v (.bl true) ∧ But d s s' := by
  unfold d__law_very
  refine fn_val ?_
  unfold b__law_very
  rcases h with h | ⟨a, vs, rfl, hN, h, hl, hs⟩ | ⟨a, i, rfl, hN, h, hs⟩
  · obtain ⟨t, ht⟩ := (h.pl s).ty
    have h1 := fun ρ => (tyP_ty (ρ := ρ) ht).1
    have h2 := (tyP_ty (ρ := []) ht).2
    obtain ⟨n1, n2⟩ := flat_ty h ht
    have k1 : kitT "list" cls t = some false := by
      rw [k_list h2]
      cases t <;> first | rfl | exact absurd rfl n1
    have k2 : kitT "dict" cls t = some false := by
      rw [k_dict h2]
      cases t <;> first | rfl | exact absurd rfl n2
    have hr := fun ρ => rs_v (ρ := ρ) (s := s) h.sh
    simp -dsimp [hr, h1, k1, k2, Rt]
    exact But.refl
  · have ha := (List.getElem?_eq_some_iff.mp h).1
    have hlt : (vs.map D.int).length < sizeLine := Nat.lt_of_lt_of_le (by rw [List.length_map]; omega : (vs.map D.int).length < 5) (Lw.small_size (by omega))
    have hr := fun ρ => rs_ref (ρ := ρ) h rfl (ints_shown hl hs)
    have g2 : (s.set a (.lst (.str "grown" :: vs.map D.int)))[a]? = some (.lst (.str "grown" :: vs.map D.int)) := List.getElem?_set_self ha
    have hr2 := fun ρ => rs_ref (ρ := ρ) g2 rfl (ints_grown hl hs)
    simp -dsimp [hr, ty_ref, h, k_list (t := .lst) rfl, tyE_ref h, ins_ref h hlt, g2, k_dict (t := .lst) rfl, hr2, Rt]
    exact But.set
  · have ha := (List.getElem?_eq_some_iff.mp h).1
    have hlt : [(.inr "a" : Key)].length < sizeLine := Nat.lt_of_lt_of_le (by decide : 1 < 5) (Lw.small_size (by omega))
    have hr := fun ρ => rs_ref (ρ := ρ) h rfl (dk_shown hs)
    have g2 : (s.set a (.dk [.inr "a", .inr "grown"] [.int i, .int 1]))[a]? = some (.dk [.inr "a", .inr "grown"] [.int i, .int 1]) := List.getElem?_set_self ha
    have hr2 := fun ρ => rs_ref (ρ := ρ) g2 rfl (dk_grown hs)
    have hp := fun ρ => dput_ref (ρ := ρ) (d := .int 1) (x := "grown") h hlt
    have e0 : ([(.inr "a" : Key)].zip [D.int i]) = [(.inr "a", .int i)] := rfl
    rw [e0, ins_dk] at hp
    have tc : tyC (.dk [.inr (Str.ofString "a")] [D.int i]) = .dct := rfl
    simp -dsimp [hr, ty_ref, h, tc, k_list (t := .dct) rfl, k_dict (t := .dct) rfl, hp, hr2, Rt]
    exact But.set
/-! ### equality of what is handed in -/
theorem ed_ints {vs : List Int} : Ed 2 (.lst (vs.map D.int)) := ed_lst (by decide) fun x hx => by obtain ⟨z, _, rfl⟩ := List.mem_map.mp hx; exact ed_int
theorem ed_tints {vs : List Int} : Ed 2 (.tup (vs.map D.int)) := ed_tup (by decide) fun x hx => by obtain ⟨z, _, rfl⟩ := List.mem_map.mp hx; exact ed_int
theorem eqw_row {ws : List Int} (h : Wv N m s d) : ∃ b, ∀ ρ, gEqW (.v (.tup (ws.map D.int))) (.v d) ρ s = .ok (.v (.bl b)) ρ s := by
  rcases h with h | ⟨a, vs, rfl, hN, h, hl, hs⟩ | ⟨a, i, rfl, hN, h, hs⟩
  · refine ⟨eqS (.tup (ws.map D.int)) d, fun ρ => ?_⟩
    have h0 : tdE (.v (.tup (ws.map D.int))) (.v d) s = false := by
      cases d <;> first | rfl | exact absurd rfl (h.nr _)
    rw [eqW_eq h0 rfl]
    exact eqn_ed (neg := false) (op_v fun n q => by cases q) (op_v h.nr) ed_tints h.ed (by decide) (by decide)
  · refine ⟨eqS (.tup (ws.map D.int)) (.lst (vs.map D.int)), fun ρ => ?_⟩
    have h0 : tdE (.v (.tup (ws.map D.int))) (.v (.ref a)) s = false := by
      show (match s[a]? with | some (.dk _ _) => true | _ => false) = false
      rw [h]
    rw [eqW_eq h0 rfl]
    exact eqn_ed (neg := false) (op_v fun n q => by cases q) (op_ref h) ed_tints ed_ints (by decide) (by decide)
  · exact ⟨false, fun ρ => eqW_td h⟩
theorem eqw_self (h : Wv N m s d) : ∃ b, ∀ ρ, gEqW (.v d) (.v d) ρ s = .ok (.v (.bl b)) ρ s := by
  rcases h with h | ⟨a, vs, rfl, hN, h, hl, hs⟩ | ⟨a, i, rfl, hN, h, hs⟩
  · refine ⟨eqS d d, fun ρ => ?_⟩
    have h0 : tdE (.v d) (.v d) s = false := by
      cases d <;> first | rfl | exact absurd rfl (h.nr _)
    have h1 : ddE (.v d) (.v d) s = false := by
      cases d <;> first | rfl | exact absurd rfl (h.nr _)
    rw [eqW_eq h0 h1]
    exact eqn_ed (neg := false) (op_v h.nr) (op_v h.nr) h.ed h.ed (by decide) (by decide)
  · refine ⟨eqS (.lst (vs.map D.int)) (.lst (vs.map D.int)), fun ρ => ?_⟩
    have h1 : ddE (.v (.ref a)) (.v (.ref a)) s = false := by
      show (a == a && match s[a]? with | some (.dk ks ds) => decide ks.Nodup && ds.all flatD | _ => false) = false
      rw [h]
      simp
    rw [eqW_eq rfl h1]
    exact eqn_ed (neg := false) (op_ref h) (op_ref h) ed_ints ed_ints (by decide) (by decide)
  · exact ⟨true, fun ρ => eqW_dd h (by rw [List.all_cons]; exact (by decide +kernel : (decide [(Sum.inr (Str.ofString "a") : Key)].Nodup && (true && [].all flatD)) = true))⟩
end
end Lw
set_option Elab.async false
set_option linter.all false
set_option maxRecDepth 100000
set_option maxHeartbeats 4000000
namespace Lw
open PySem L2 DL DP
theorem sgn_mem {a b : Int} : sgn a b ∈ signs := by
  unfold sgn signs
  split
  · simp
  · split <;> simp
theorem cellS_mem : ∀ {xs ys : List Int}, ∀ g ∈ cellS xs ys, g ∈ signs
  | [], _, g, h => by simp [cellS] at h
  | x :: xs, [], g, h => by simp [cellS] at h
  | x :: xs, y :: ys, g, h => by
    have h : g ∈ sgn x y :: cellS xs ys := h
    rcases List.mem_cons.mp h with rfl | h
    · exact sgn_mem
    · exact cellS_mem g h
theorem cellS_len {xs ys : List Int} (h : xs.length = ys.length) : (cellS xs ys).length = xs.length := by
  unfold cellS
  rw [List.length_zipWith]
  omega
theorem sign_sh {g : Str} (h : g ∈ signs) : Sh 1 1 false false (.str g) := by
  have : ∀ g ∈ signs, g.cps.size ≤ 1 ∧ (g.cps.toList.all fun c => decide (c < 16 ^ 8)) = true := by decide +kernel
  exact sh_str (this g h).1 (this g h).2
theorem cell_sh {c : List Str} (hc : ∀ g ∈ c, g ∈ signs) (h4 : c.length ≤ 4) : Sh 2 8 false false (cellD c) :=
  (sh_tup (n := 1) (w := 1) (by decide) fun x hx => by obtain ⟨g, hg, rfl⟩ := List.mem_map.mp hx; exact sign_sh (hc g hg)).up (by decide) (by rw [List.length_map]; omega) (fun h => h) fun h => h
theorem told_shown {c : List Str} (hc : ∀ g ∈ c, g ∈ signs) (h4 : c.length ≤ 4) : Shown (.lst [.str "told", cellD c]) :=
  (sh_lst (n := 2) (w := 8) (b := false) (g := false) (by decide) fun x hx => by
    simp only [List.mem_cons, List.not_mem_nil, or_false] at hx
    rcases hx with rfl | rfl
    · exact (sh_word "told" 4 (by decide +kernel)).up (by decide) (by decide) (fun h => h) fun h => h
    · exact cell_sh hc h4).shown (by decide) (by simp) rfl
theorem t_rows {f : M E} (hf : f = d__law_rows_right) {n m : Nat} {s : List Cl} {k : Int} {bs : List Str} {form : D} {turn : Int} (h : Bx n k s) (hk : k < 2 ^ 29) (hn : n < s.length) (hF : FormV bs form) (hm : bs.length = m) (h1 : 1 ≤ m) (h4 : m ≤ 4) (ht : turn = 0 ∨ turn = 1) :
    V1 f [.ref n, form, .int m, .int turn] s fun e s' => e = .v (.bl true) ∧ Bx n (k + 200) s' ∧ Up n s s' := by
  have h2 : 2 ≤ sizeLine := Lw.small_size (by omega)
  have hr := fun ρ s => DP.w_r1n (m := m) (ρ := ρ) (s := s) (by omega)
  rw [hf]
  unfold d__law_rows_right
  refine fn_val ?_
  unfold b__law_rows_right
  simp -dsimp [-w_r1, hr]
  refine ok_lcD (fun acc rest ρ s2 => (∃ xs : List Int, acc = xs.map D.int ∧ xs.length + rest.length = m ∧ (∀ x ∈ xs, Sz 150 x) ∧ Bx n (k + 3 * xs.length) s2) ∧ ρ = [.val (.ref n), .val form, .val (.int m), .val (.int turn), .no, .no, .no, .no, .no, .no, .no, .no, .no, .no, .no, .no] ∧ DP.Same n s s2) ?_ ?_ _ [] _ _
    ⟨⟨[], rfl, by simp, (fun u hu => by cases hu), h.up (by simp)⟩, rfl, DP.Same.refl⟩
  · rintro d rest acc ρ s2 ⟨⟨us, rfl, hul, hus, B2⟩, rfl, S2⟩
    have hu4 : us.length < 4 := by simp at hul; omega
    have hz : us.length < sizeLine := Nat.lt_of_lt_of_le hu4 (Lw.small_size (by omega))
    simp -dsimp
    refine ok_call1 ((t_whole B2 (by omega)).mono ?_)
    rintro e s3 ⟨⟨u, rfl, hu⟩, B3, S3⟩
    simp -dsimp [hz]
    refine ⟨⟨us ++ [u], by simp, by simp at hul ⊢; omega, fun x hx => ?_, B3.up (by simp; omega)⟩, S2.trans S3⟩
    rcases List.mem_append.mp hx with hx | hx
    · exact hus x hx
    · rw [List.mem_singleton.mp hx]; exact hu
  rintro acc ρ s2 ⟨⟨xs, rfl, hxl, hxs, B2⟩, rfl, S2⟩
  have hxl : xs.length = m := by simpa using hxl
  simp -dsimp [-w_r1]
  refine ok_call2 ((t_near B2 (by omega) (by omega) hxs).mono ?_)
  rintro e s3 ⟨⟨ys, rfl, hyl, hys⟩, B3, S3⟩
  have U3 : Up n s s3 := Up.same (S2.trans S3)
  have hxs' : ∀ v ∈ xs, Sz 160 v := fun v hv => (hxs v hv).mono (by decide)
  have hyl : ys.length = m := by omega
  have hC := cellS_mem (xs := ys) (ys := xs)
  have hCl : (cellS ys xs).length = m := by rw [cellS_len (by omega)]; exact hyl
  have hB := cellS_mem (xs := xs) (ys := ys)
  have hBl : (cellS xs ys).length = m := by rw [cellS_len (by omega)]; exact hxl
  simp -dsimp [-w_r1]
  refine ok_lcY (xs := zipD (ys.map D.int) (xs.map D.int)) sgnD (Lw.small_size (Nat.le_trans zipD_len (by rw [List.length_map]; omega))) (fun d hd => ?_) ?_
  · obtain ⟨a, ha, b, hb, rfl⟩ := zipD_mem hd
    obtain ⟨i, _, rfl⟩ := List.mem_map.mp ha
    obtain ⟨j, _, rfl⟩ := List.mem_map.mp hb
    simp -dsimp [call2e (t_law_sign (s := s3) (a := i) (b := j))]
  rw [zipD_sgn]
  simp -dsimp
  refine ok_forE ((List.range 2).map fun i => D.int (0 + (i : Nat))) (fun done rest ρ s4 => s4 = s3 ∧ ∃ x7 x8 x9 : Sl, Fr x7 ∧ Fr x8 ∧ Fr x9 ∧
    ρ = [.val (.ref n), .val form, .val (.int m), .val (.int turn), .val (.tup (xs.map D.int)), .val (.tup (ys.map D.int)), .val (.tup ((cellS ys xs).map D.str)), x7, x8, x9, .no, .no, .no, .no, .no, .no])
    ⟨rfl, .no, .no, .no, by simp, by simp, by simp, rfl⟩ ?_ ?_
  · rintro d rest done ρ s4 e ⟨rfl, x7, x8, x9, f7, f8, f9, rfl⟩
    obtain ⟨hdl, rfl⟩ := DP.range_at e
    have hk01 : (0 + (done.length : Nat) : Int) = 0 ∨ (0 + (done.length : Nat) : Int) = 1 := by omega
    have ht2 : (turn + (0 + (done.length : Nat))) % 2 = 0 ∨ (turn + (0 + (done.length : Nat))) % 2 = 1 := by omega
    have a1 := t_lcell (s := s4) (turn := (turn + (0 + (done.length : Nat))) % 2) ht2 hF (xs := ys) (ys := xs) (by omega) (by omega) (by omega)
    have a2 := t_lcell (s := s4) ht hF (xs := xs) (ys := ys) (by omega) (by omega) (by omega)
    have a3 := t_lturned_ok (s := s4) (turn := 0 + (done.length : Nat)) hk01 (c := cellS ys xs) (by omega) (by omega) hC
    have a4 := t_law_back (s := s4) (c := cellS ys xs) (by omega)
    rw [back_cell] at a3 a4
    have sh1 := told_shown hC (by omega)
    have sh2 := told_shown hB (by omega)
    have r1 := fun ρ s => rs_v (ρ := ρ) (s := s) sh1
    have r2 := fun ρ s => rs_v (ρ := ρ) (s := s) sh2
    have r3 := fun ρ s => rs_flst (ρ := ρ) (s := s) sh1
    have r4 := fun ρ s => rs_flst (ρ := ρ) (s := s) sh2
    have e1 : D.tup ((cellS ys xs).map D.str) = cellD (cellS ys xs) := rfl
    have e2 : D.tup ((cellS xs ys).map D.str) = cellD (cellS xs ys) := rfl
    rw [e1, e2] at a4
    rw [e1]
    generalize cellD (cellS ys xs) = c1 at *
    generalize cellD (cellS xs ys) = c2 at *
    generalize (0 + (done.length : Nat) : Int) = kk at *
    simp -dsimp [putSl_fr f7, putSl_fr f8, putSl_fr f9]
    refine ok_call4 (a1.mono ?_)
    rintro e s5 ⟨rfl, rfl⟩
    simp -dsimp [putSl_fr f7, putSl_fr f8, putSl_fr f9]
    refine ok_call4 (a2.mono ?_)
    rintro e s6 ⟨rfl, rfl⟩
    simp -dsimp [putSl_fr f9, r1, r2, r3, r4, call1e a4, h2, atI, ixN]
    refine ok_call2 (a3.mono ?_)
    rintro e s7 ⟨rfl, rfl⟩
    simp -dsimp [r2, r4]
    exact ⟨_, by simp, _, by simp, _, by simp, rfl, rfl, rfl⟩
  rintro ρ s4 ⟨rfl, x7, x8, x9, f7, f8, f9, rfl⟩
  simp -dsimp
  have hN3 := U3.len
  refine ok_call3 ((t_no_row rfl (B3.up (k' := k + 16) (by omega)) (by omega) (by omega : 1 ≤ ys.length) (by omega) hys).mono ?_)
  rintro e s5 ⟨⟨w, rfl, hw⟩, B5, U5⟩
  rw [hyl] at hw
  simp -dsimp
  have hwlow : ∀ a, w = .ref a → a < s5.length := fun a e => (hw.ge e).2
  have hwn : w ≠ .ref n := fun e => by have := (hw.ge e).1; omega
  obtain ⟨rw0, hrw⟩ := hw.repr
  refine ok_forE ((List.range 9).map fun i => D.int (0 + (i : Nat))) (fun done rest ρ s6 => ∃ (o : D) (y7 : Sl), Fr y7 ∧ Wv s.length m s6 o ∧ (∀ a, w = .ref a → o ≠ .ref a) ∧ Bx n (k + 19 + 3 * done.length) s6 ∧ Up n s5 s6 ∧
    ρ = [.val (.ref n), .val form, .val (.int m), .val (.int turn), .val (.tup (xs.map D.int)), .val (.tup (ys.map D.int)), .val (.tup ((cellS ys xs).map D.str)), y7, x8, x9, .val w, .val o, .no, .no, .no, .no])
    ⟨.non, x7, f7, .inl (flat_leaf (t := .non) (fun s => rfl) sh_non (by decide) ed_non (fun xs q => by cases q) rfl (fun n q => by cases q) (fun xs q => by cases q) (fun ks xs q => by cases q)), (fun a _ q => by cases q), B5.up (by simp; omega), Up.refl, rfl⟩ ?_ ?_
  · rintro d rest done ρ s6 e ⟨o, y7, g7, ho, hno, B6, U6, rfl⟩
    obtain ⟨hdl, rfl⟩ := DP.range_at e
    have hw6 : Wv s4.length m s6 w := hw.keep fun a e => U6.oth a (hwlow a e) (fun q => hwn (by rw [e, q]))
    obtain ⟨x1, hx1⟩ := hw6.repr
    obtain ⟨x2, hx2⟩ := ho.repr
    generalize (0 + (done.length : Nat) : Int) = kk at *
    have B6' := B6.up (k' := k + 50) (by omega)
    have draw : ∀ Q, (∀ o' s7, Wv s6.length m s7 o' → Bx n (k + 19 + 3 * done.length + 3) s7 → Up n s6 s7 → Q (E.v o') [.val (.ref n), .val form, .val (.int m), .val (.int turn), .val (.tup (xs.map D.int)), .val (.tup (ys.map D.int)), .val (.tup ((cellS ys xs).map D.str)), .val (.int kk), x8, x9, .val w, .val o, .no, .no, .no, .no] s7) →
        Ok (gCall 3 d__law_no_row [.v (.ref n), .v (.tup (xs.map D.int)), .v (.int kk)] [.val (.ref n), .val form, .val (.int m), .val (.int turn), .val (.tup (xs.map D.int)), .val (.tup (ys.map D.int)), .val (.tup ((cellS ys xs).map D.str)), .val (.int kk), x8, x9, .val w, .val o, .no, .no, .no, .no] s6) Q := fun Q q => by
      refine ok_call3 ((t_no_row rfl B6 (by omega) (by omega : 1 ≤ xs.length) (by omega) hxs').mono ?_)
      rintro e s7 ⟨⟨o', rfl, ho'⟩, B7, U7⟩
      rw [hxl] at ho'
      exact q o' s7 ho' B7 U7
    have L5 := U5.len
    have L6 := U6.len
    have fin : ∀ o' s7, Wv s6.length m s7 o' → Bx n (k + 19 + 3 * done.length + 3) s7 → Up n s6 s7 → ∃ (o : D) (y7 : Sl), Fr y7 ∧ Wv s.length m s7 o ∧ (∀ a, w = .ref a → o ≠ .ref a) ∧ Bx n (k + 19 + 3 * (done.length + 1)) s7 ∧ Up n s5 s7 ∧
        [Sl.val (.ref n), .val form, .val (.int m), .val (.int turn), .val (.tup (xs.map D.int)), .val (.tup (ys.map D.int)), .val (.tup ((cellS ys xs).map D.str)), .val (.int kk), x8, x9, .val w, .val o', .no, .no, .no, .no] = [.val (.ref n), .val form, .val (.int m), .val (.int turn), .val (.tup (xs.map D.int)), .val (.tup (ys.map D.int)), .val (.tup ((cellS ys xs).map D.str)), y7, x8, x9, .val w, .val o, .no, .no, .no, .no] := fun o' s7 ho' B7 U7 =>
      ⟨o', .val (.int kk), by simp, ho'.low (by omega), fun a e q => by have := (ho'.ge q).1; have := hwlow a e; omega, B7.up (by omega), U6.trans U7, rfl⟩
    have stay : ∃ (o' : D) (y7 : Sl), Fr y7 ∧ Wv s.length m s6 o' ∧ (∀ a, w = .ref a → o' ≠ .ref a) ∧ Bx n (k + 19 + 3 * (done.length + 1)) s6 ∧ Up n s5 s6 ∧
        [Sl.val (.ref n), .val form, .val (.int m), .val (.int turn), .val (.tup (xs.map D.int)), .val (.tup (ys.map D.int)), .val (.tup ((cellS ys xs).map D.str)), .val (.int kk), x8, x9, .val w, .val o, .no, .no, .no, .no] = [.val (.ref n), .val form, .val (.int m), .val (.int turn), .val (.tup (xs.map D.int)), .val (.tup (ys.map D.int)), .val (.tup ((cellS ys xs).map D.str)), y7, x8, x9, .val w, .val o', .no, .no, .no, .no] :=
      ⟨o, .val (.int kk), by simp, ho, hno, B6.up (by omega), U6, rfl⟩
    simp -dsimp [putSl_fr g7]
    cases hb : isNon o with
    | true =>
      simp -dsimp
      refine draw _ fun o' s7 ho' B7 U7 => ?_
      simp -dsimp
      simpa using fin o' s7 ho' B7 U7
    | false =>
      simp -dsimp [hx1, hx2]
      by_cases hq : x2 = x1
      · simp -dsimp [hq]
        refine draw _ fun o' s7 ho' B7 U7 => ?_
        simp -dsimp
        simpa using fin o' s7 ho' B7 U7
      · simp -dsimp [hq]
        simpa using stay
  rintro ρ s6 ⟨o, y7, g7, ho, hno, B6, U6, rfl⟩
  have hl9 : ((List.range 9).map fun i => D.int (0 + (i : Nat))).length = 9 := by simp
  rw [hl9] at B6
  have L5 := U5.len
  have L6 := U6.len
  have hw6 : Wv s4.length m s6 w := hw.keep fun a e => U6.oth a (hwlow a e) (fun q => hwn (by rw [e, q]))
  have bad := t_lcell_x (s := s6) (form := form) (later := .tup (ys.map D.int)) (earlier := w) (d := w) ht (x_cell2 hF (by omega) (by omega) hw6.plain (by rw [hm]; exact hw6.row))
  simp -dsimp
  refine ok_call4 (bad.mono ?_)
  rintro e s7 ⟨rfl, rfl⟩
  simp -dsimp [putSl_fr f8, atI, ixN]
  refine ok_call2 ((t_very hw6).mono ?_)
  rintro e s8 ⟨rfl, b8⟩
  have B8 : Bx n (k + 46) s8 := by
    obtain ⟨c, c1, c2⟩ := B6.up (k' := k + 46) (by omega)
    exact ⟨c, by rw [b8.oth n hwn]; exact c1, c2⟩
  have U8 : Up n s s8 := by
    have := (U3.trans U5).trans U6
    refine ⟨by rw [b8.len]; exact this.len, fun j hj hn => ?_⟩
    rw [b8.oth j (fun e => by have := (hw6.ge e).1; omega)]
    exact this.oth j hj hn
  have ho8 : Wv s.length m s8 o := ho.keep fun a e => b8.oth a (fun q => hno a q e)
  simp -dsimp
  refine ok_call3 ((t_no_row rfl B8 (by omega) (by omega : 1 ≤ ys.length) (by omega) hys).mono ?_)
  rintro e s9 ⟨⟨g, rfl, hg⟩, B9, U9⟩
  rw [hyl] at hg
  have L8 := U8.len
  have on : o ≠ .ref n := fun e => by have := (ho8.ge e).1; omega
  have ho9 : Wv s.length m s9 o := ho8.keep fun a e => U9.oth a (ho8.ge e).2 (fun q => on (by rw [e, q]))
  simp -dsimp [h2]
  refine ok_call2 ((t_take B9 (by omega) (by omega) (by omega)).mono ?_)
  rintro e s10 ⟨⟨u, rfl, u0, u1⟩, B10, S10⟩
  have gn : g ≠ .ref n := fun e => by have := (hg.ge e).1; omega
  have ho10 : Wv s.length m s10 o := ho9.keep fun a e => S10.oth a (fun q => on (by rw [e, q]))
  have hg10 : Wv s8.length m s10 g := hg.keep fun a e => S10.oth a (fun q => gn (by rw [e, q]))
  have U10 : Up n s s10 := (U8.trans U9).trans (Up.same S10)
  have ht' : (1 - turn) = 0 ∨ (1 - turn) = 1 := by omega
  obtain ⟨x1, hx1⟩ := ho10.repr
  obtain ⟨x2, hx2⟩ := hg10.repr
  have tail : ∀ last : D, Ok (sSeq (sAsg (eFz (M.bind (esCons (eFz (eVar 1)) (esCons (eFz (eVar 12)) (esCons (eFz (eVar 13)) (esCons (eFz (eBin gSub (eC (.int 1)) (eVar 3))) esNil)))) (gCall 4 d__law_cell_of))) (put 8)) (sRet (eAndV (eBin gEq (eBin gIx (eVar 8) (eC (.int 0))) (eC (.str ("row" : Str)))) (M.bind (esCons (eFz (eBin gIx (eVar 8) (eC (.int 1)))) (esCons (eVar 12) esNil)) (gCall 2 d__law_very))))
      [.val (.ref n), .val form, .val (.int m), .val (.int turn), .val (.tup (xs.map D.int)), .val (.tup (ys.map D.int)), .val (.tup ((cellS ys xs).map D.str)), y7, .val (.lst [.str "row", w, .bl true]), x9, .val w, .val o, .val g, .val last, .no, .no] s10) fun fl ρ s' => 4 ≤ ρ.length ∧ Rt ρ s' (fun e s' => e = .v (.bl true) ∧ Bx n (k + 200) s' ∧ Up n s s') fl := fun last => by
    have bad := t_lcell_x (s := s10) (form := form) (later := g) (earlier := last) (d := g) ht' (x_cell1 hF hg10.plain (by rw [hm]; exact hg10.row))
    simp -dsimp
    refine ok_call4 (bad.mono ?_)
    rintro e s11 ⟨rfl, rfl⟩
    simp -dsimp [atI, ixN]
    refine ok_call2 ((t_very hg10).mono ?_)
    rintro e s12 ⟨rfl, b12⟩
    simp -dsimp [Rt]
    refine ⟨?_, ?_⟩
    · obtain ⟨c, c1, c2⟩ := B10.up (k' := k + 200) (by omega)
      exact ⟨c, by rw [b12.oth n gn]; exact c1, c2⟩
    · refine ⟨by rw [b12.len]; exact U10.len, fun j hj hn => ?_⟩
      rw [b12.oth j (fun e => by have := (hg10.ge e).1; omega)]
      exact U10.oth j hj hn
  have hu : u = 0 ∨ u = 1 := by omega
  obtain ⟨b1, hb1⟩ := eqw_row (ws := ys) ho10
  obtain ⟨b2, hb2⟩ := eqw_self ho10
  have fin : ∀ last b, (∀ ρ, gEqW (.v last) (.v o) ρ s10 = .ok (.v (.bl b)) ρ s10) → Ok (sSeq (sIf (tAnd (tB (eBin gEqW (eVar 13) (eVar 11))) (tB (eBin gEq (M.bind (esCons (eVar 12) esNil) gRepr) (M.bind (esCons (eVar 11) esNil) gRepr)))) (sAsg (eFz (eVar 4)) (put 13)) sNx) (sSeq (sAsg (eFz (M.bind (esCons (eFz (eVar 1)) (esCons (eFz (eVar 12)) (esCons (eFz (eVar 13)) (esCons (eFz (eBin gSub (eC (.int 1)) (eVar 3))) esNil)))) (gCall 4 d__law_cell_of))) (put 8)) (sRet (eAndV (eBin gEq (eBin gIx (eVar 8) (eC (.int 0))) (eC (.str ("row" : Str)))) (M.bind (esCons (eFz (eBin gIx (eVar 8) (eC (.int 1)))) (esCons (eVar 12) esNil)) (gCall 2 d__law_very)))))
      [.val (.ref n), .val form, .val (.int m), .val (.int turn), .val (.tup (xs.map D.int)), .val (.tup (ys.map D.int)), .val (.tup ((cellS ys xs).map D.str)), y7, .val (.lst [.str "row", w, .bl true]), x9, .val w, .val o, .val g, .val last, .no, .no] s10) fun fl ρ s' => 4 ≤ ρ.length ∧ Rt ρ s' (fun e s' => e = .v (.bl true) ∧ Bx n (k + 200) s' ∧ Up n s s') fl := fun last b hb => by
    rw [ok_sSeq]
    cases b with
    | false =>
      simp -dsimp [hb, -ok_sSeq]
      exact tail last
    | true =>
      by_cases hq : x2 = x1
      · simp -dsimp [hb, hx1, hx2, hq, -ok_sSeq]
        exact tail (.tup (xs.map D.int))
      · simp -dsimp [hb, hx1, hx2, hq, -ok_sSeq]
        exact tail last
  rcases hu with rfl | rfl
  · simp -dsimp [atI, ixN, -ok_sSeq]
    exact fin _ b1 hb1
  · simp -dsimp [atI, ixN, -ok_sSeq]
    exact fin _ b2 hb2
end Lw
set_option Elab.async false
set_option linter.all false
set_option maxRecDepth 100000
set_option maxHeartbeats 4000000
namespace Lw
open PySem PySem.Spec PyProof.Rows L2 DL DP TL
section
variable {s s' : List Cl} {d : D} {t : Ty} {a b : Nat} {xs : List D}
theorem very_flat (ht : tyP s d = some t) (n1 : t ≠ .lst) (n2 : t ≠ .dct) (h : Shown d) : V1 d__law_very [d, d] s fun e s' => e = .v (.bl true) ∧ s' = s := by
  have h1 := fun ρ => (tyP_ty (ρ := ρ) ht).1
  have h2 := (tyP_ty (ρ := []) ht).2
  have k1 : kitT "list" cls t = some false := by
    rw [k_list h2]
    cases t <;> first | rfl | exact absurd rfl n1
  have k2 : kitT "dict" cls t = some false := by
    rw [k_dict h2]
    cases t <;> first | rfl | exact absurd rfl n2
  have hr := fun ρ => rs_v (ρ := ρ) (s := s) h
  unfold d__law_very
  refine fn_val ?_
  unfold b__law_very
  simp -dsimp [hr, h1, k1, k2, Rt]
theorem very_lst (h : s[a]? = some (.lst xs)) (hl : xs.length < sizeLine) (h1 : Shown (.lst xs)) (h2 : Shown (.lst (.str "grown" :: xs))) : V1 d__law_very [.ref a, .ref a] s fun e s' => e = .v (.bl true) ∧ s' = s.set a (.lst (.str "grown" :: xs)) := by
  have ha := (List.getElem?_eq_some_iff.mp h).1
  have hr := fun ρ => rs_ref (ρ := ρ) h rfl h1
  have g2 : (s.set a (.lst (.str "grown" :: xs)))[a]? = some (.lst (.str "grown" :: xs)) := List.getElem?_set_self ha
  have hr2 := fun ρ => rs_ref (ρ := ρ) g2 rfl h2
  unfold d__law_very
  refine fn_val ?_
  unfold b__law_very
  simp -dsimp [hr, ty_ref, h, k_list (t := .lst) rfl, tyE_ref h, ins_ref h hl, g2, k_dict (t := .lst) rfl, hr2, Rt]
theorem very_dk {ks ks' : List Key} {xs' : List D} (h : s[a]? = some (.dk ks xs)) (hl : ks.length < sizeLine) (h1 : Shown (.dk ks xs)) (h2 : Shown (.dk ks' xs')) (hp : putG (ks.zip xs) (.inr "grown") (.int 1) = ks'.zip xs') (hz : ks'.length = xs'.length) :
    V1 d__law_very [.ref a, .ref a] s fun e s' => e = .v (.bl true) ∧ s' = s.set a (.dk ks' xs') := by
  have ha := (List.getElem?_eq_some_iff.mp h).1
  have hr := fun ρ => rs_ref (ρ := ρ) h rfl h1
  have g2 : (s.set a (.dk ks' xs'))[a]? = some (.dk ks' xs') := List.getElem?_set_self ha
  have hr2 := fun ρ => rs_ref (ρ := ρ) g2 rfl h2
  have hpp := fun ρ => dput_ref (ρ := ρ) (d := .int 1) (x := "grown") h hl
  have e1 : (ks'.zip xs').map (·.1) = ks' := List.map_fst_zip (by omega)
  have e2 : (ks'.zip xs').map (·.2) = xs' := List.map_snd_zip (by omega)
  rw [hp, e1, e2] at hpp
  have tc : tyC (.dk ks xs) = .dct := rfl
  unfold d__law_very
  refine fn_val ?_
  unfold b__law_very
  simp -dsimp [hr, ty_ref, h, tc, k_list (t := .dct) rfl, k_dict (t := .dct) rfl, hpp, hr2, Rt]
end
/-- a value that is no cell, of no list or dict -/
structure FlatC (d : D) : Prop where
  pl : ∀ s, PlainV s d
  cell : cellOk d = false
  sh : Shown d
  ty : ∀ s t, tyP s d = some t → t ≠ .lst ∧ t ≠ .dct
theorem flatC_tup {xs : List D} (h : ∀ x ∈ xs, It x) (hl : xs.length ≤ 9) (hr : cellOk (.tup xs) = false) : FlatC (.tup xs) :=
  ⟨fun s => ⟨⟨_, rfl⟩, fun ys e => by cases e; exact ⟨by omega, fun x hx => let ⟨t, ht⟩ := (h x hx).ty; ⟨t, ht s⟩⟩⟩, hr,
    (sh_tup (by decide) fun x hx => (h x hx).sh).shown (by decide) (by have : (250 + 1) * xs.length ≤ 251 * 9 := Nat.mul_le_mul_left _ hl; omega) rfl,
    fun s t e => by cases e; exact ⟨(fun q => by cases q), fun q => by cases q⟩⟩
theorem flatC_leaf {w : Nat} {d : D} {t : Ty} (ht : ∀ s, tyP s d = some t) (hs : Sh 1 w false false d) (hw : w ≤ 8000) (hn : ∀ xs, d ≠ .tup xs) (hr : cellOk d = false) (n1 : t ≠ .lst) (n2 : t ≠ .dct) : FlatC d :=
  ⟨fun s => ⟨⟨t, ht s⟩, fun xs e => absurd e (hn _)⟩, hr, hs.shown (by decide) hw rfl, fun s u e => by rw [ht s] at e; cases e; exact ⟨n1, n2⟩⟩
theorem it_of {x : D} {n w : Nat} {b : Bool} (ht : ∃ t, ∀ s, tyP s x = some t) (hs : Sh n w b false x) (he : Ed n x) (hn : n ≤ 3) (hw : w ≤ 250) : It x := ⟨ht, hs.up hn hw (fun _ => rfl) (fun h => h), he.up hn⟩
theorem it_sign {g : Str} (h : g ∈ signs) : It (.str g) := it_of ⟨_, fun s => rfl⟩ (sign_sh h) (ed_str ((by decide +kernel : ∀ g ∈ signs, PyData.strOk g = true) g h)) (by decide) (by decide)
def oddsC : List D := [.str "!", .str "", .str "<=", .non, .bl true, .int 0, .tup [.str "<"], .lst [.str "<"], .str "=="]
theorem oddsC_it : ∀ w ∈ oddsC, It w ∧ signD w = false := by
  intro w hw
  simp only [oddsC, List.mem_cons, List.not_mem_nil, or_false] at hw
  have word : ∀ x : String, (Str.ofString x).cps.size ≤ 2 → It (.str (Str.ofString x)) := fun x hx => it_of ⟨_, fun s => rfl⟩ (sh_word x 2 hx) (ed_str (ofS_ok _)) (by decide) (by decide)
  have i5 : ∀ x ∈ [D.str (Str.ofString "<")], Ed 1 x ∧ Sh 1 1 false false x := fun x hx => by rw [List.mem_singleton.mp hx]; exact ⟨ed_str (ofS_ok _), sh_word _ 1 (by decide +kernel)⟩
  rcases hw with rfl | rfl | rfl | rfl | rfl | rfl | rfl | rfl | rfl
  · exact ⟨word _ (by decide +kernel), by decide +kernel⟩
  · exact ⟨word _ (by decide +kernel), by decide +kernel⟩
  · exact ⟨word _ (by decide +kernel), by decide +kernel⟩
  · exact ⟨it_of ⟨_, fun s => rfl⟩ sh_non ed_non (by decide) (by decide), rfl⟩
  · exact ⟨it_of ⟨_, fun s => rfl⟩ sh_bl ed_bl (by decide) (by decide), rfl⟩
  · exact ⟨it_of ⟨_, fun s => rfl⟩ (sh_int (k := 64) (sz_small (by decide) (by decide)) (by decide)) ed_int (by decide) (by decide), rfl⟩
  · exact ⟨it_of ⟨_, fun s => rfl⟩ (sh_tup (by decide) fun x hx => (i5 x hx).2) (ed_tup (by decide) fun x hx => (i5 x hx).1) (by decide) (by decide), rfl⟩
  · exact ⟨it_of ⟨_, fun s => rfl⟩ (sh_lst (by decide) fun x hx => (i5 x hx).2) (ed_lst (by decide) fun x hx => (i5 x hx).1) (by decide) (by decide), rfl⟩
  · exact ⟨word _ (by decide +kernel), by decide +kernel⟩
theorem cell_long {xs : List D} (h : 4 < xs.length) : cellOk (.tup xs) = false := by
  have h2 : ¬ xs.length ≤ 4 := by omega
  show (decide (1 ≤ xs.length) && (decide (xs.length ≤ 4) && xs.all signD)) = false
  simp [h2]
theorem cell_odd {xs : List D} {x : D} (hx : x ∈ xs) (h : signD x = false) : cellOk (.tup xs) = false := by
  show (decide (1 ≤ xs.length) && (decide (xs.length ≤ 4) && xs.all signD)) = false
  have : xs.all signD = false := by
    rw [List.all_eq_false]
    exact ⟨x, hx, by simp [h]⟩
  rw [this, Bool.and_false, Bool.and_false]
theorem join_signs {c : List Str} (hc : ∀ g ∈ c, g ∈ signs) : (Txt.join (Str.ofString "") c).cps.size = c.length ∧ ((Txt.join (Str.ofString "") c).cps.toList.all fun c => decide (c < 16 ^ 8)) = true := by
  have e : tl (Txt.join (Str.ofString "") c) = (c.map tl).flatten := tl_join0 (by decide +kernel) c
  have k : ∀ g ∈ signs, (tl g).length = 1 ∧ ∀ x ∈ tl g, x < 16 ^ 8 := by decide +kernel
  have hl : ((c.map tl).flatten).length = c.length ∧ ∀ x ∈ (c.map tl).flatten, x < 16 ^ 8 := by
    clear e
    induction c with
    | nil => exact ⟨rfl, fun x hx => by simp at hx⟩
    | cons g c ih =>
      obtain ⟨i1, i2⟩ := ih fun g hg => hc g (List.mem_cons_of_mem _ hg)
      obtain ⟨k1, k2⟩ := k g (hc g List.mem_cons_self)
      rw [List.map_cons, List.flatten_cons]
      refine ⟨by rw [List.length_append, i1, k1, List.length_cons]; omega, fun x hx => ?_⟩
      rcases List.mem_append.mp hx with hx | hx
      · exact k2 x hx
      · exact i2 x hx
  rw [← e] at hl
  refine ⟨?_, ?_⟩
  · rw [← hl.1]
    exact len_tl _
  · rw [List.all_eq_true]
    exact fun x hx => decide_eq_true (hl.2 x hx)
theorem signs_sum {c : List Str} (hc : ∀ g ∈ c, g ∈ signs) : (c.map (·.length)).sum = c.length := by
  have k : ∀ g ∈ signs, g.length = 1 := by decide +kernel
  induction c with
  | nil => rfl
  | cons g c ih =>
    rw [List.map_cons, List.sum_cons, ih fun g hg => hc g (List.mem_cons_of_mem _ hg), k g (hc g List.mem_cons_self), List.length_cons]
    omega
def swapC (p : Int) (odd : D) : D → D
  | .tup [.int k, x] => if k = p then odd else x
  | d => d
theorem swapC_mem {xs : List D} {p : Int} {odd : D} (hp0 : 0 ≤ p) (hp1 : p < xs.length) : (∀ x ∈ (enumD xs).map (swapC p odd), x = odd ∨ x ∈ xs) ∧ odd ∈ (enumD xs).map (swapC p odd) := by
  refine ⟨fun x hx => ?_, ?_⟩
  · obtain ⟨y, hy, rfl⟩ := List.mem_map.mp hx
    obtain ⟨i, z, rfl, hz⟩ := enumD_mem hy
    by_cases h : (i : Int) = p
    · left; simp [swapC, h]
    · right; simp [swapC, h]; exact List.mem_of_getElem? hz
  · obtain ⟨q, rfl⟩ := Int.eq_ofNat_of_zero_le hp0
    have hq : q < xs.length := by omega
    have he := enumD_get (List.getElem?_eq_getElem hq)
    exact List.mem_map.mpr ⟨_, List.mem_of_getElem? he, by simp [swapC]⟩
/-- the two things among the values -/
structure VS (a b : Nat) (k : Nat) (s : List Cl) : Prop where
  l : ∃ gs : List Str, s[a]? = some (.lst (gs.map D.str)) ∧ gs.length ≤ 4 + k ∧ ∀ g ∈ gs, Sh 1 5 false false (.str g)
  d : s[b]? = some (.dk [.inr "<"] [.int 1]) ∨ s[b]? = some (.dk [.inr "<", .inr "grown"] [.int 1, .int 1])
theorem strs_shown {gs : List Str} (h : ∀ g ∈ gs, Sh 1 5 false false (.str g)) (hl : gs.length ≤ 100) : Shown (.lst (gs.map D.str)) :=
  (sh_lst (n := 1) (w := 5) (b := false) (g := false) (by decide) fun x hx => by
    obtain ⟨g, hg, rfl⟩ := List.mem_map.mp hx; exact h g hg).shown (by decide) (by rw [List.length_map]; omega) rfl
theorem dk_sh1 : Shown (.dk [.inr "<"] [.int 1]) :=
  (sh_dk (n := 1) (w := 65) (kw := 5) (b := false) (g := false) (ks := ["<"]) (xs := [.int 1]) (by decide) rfl (fun k hk => by rw [List.mem_singleton.mp hk]; exact ⟨by decide +kernel, ofS_sh _⟩) fun x hx => by
    rw [List.mem_singleton.mp hx]; exact sh_int (sz_small (by decide) (by decide)) (by decide)).shown (by decide) (by simp) rfl
theorem dk_sh2 : Shown (.dk [.inr "<", .inr "grown"] [.int 1, .int 1]) :=
  (sh_dk (n := 1) (w := 65) (kw := 5) (b := false) (g := false) (ks := ["<", "grown"]) (xs := [.int 1, .int 1]) (by decide) rfl (fun k hk => by
      simp only [List.mem_cons, List.not_mem_nil, or_false] at hk
      rcases hk with rfl | rfl
      · exact ⟨by decide +kernel, ofS_sh _⟩
      · exact ⟨by decide +kernel, ofS_sh _⟩) fun x hx => by
    simp only [List.mem_cons, List.not_mem_nil, or_false] at hx
    rcases hx with rfl | rfl <;> exact sh_int (sz_small (by decide) (by decide)) (by decide)).shown (by decide) (by simp) rfl
theorem VS.grow {a b k : Nat} {s : List Cl} {d : D} (h : VS a b k s) (hab : a ≠ b) (hk : k ≤ 50) (hd : d = .ref a ∨ d = .ref b ∨ FlatC d) : V1 d__law_very [d, d] s fun e s' => e = .v (.bl true) ∧ VS a b (k + 1) s' ∧ s'.length = s.length ∧ ∀ j, j ≠ a → j ≠ b → s'[j]? = s[j]? := by
  obtain ⟨gs, h1, h2, h3⟩ := h.l
  have ng : ¬ ((Sum.inr (Str.ofString "<") : Key) = Sum.inr (Str.ofString "grown")) := by decide +kernel
  rcases hd with rfl | rfl | hd
  · have hgr : ∀ g ∈ (Str.ofString "grown") :: gs, Sh 1 5 false false (.str g) := fun g hg => by
      rcases List.mem_cons.mp hg with rfl | hg
      · exact sh_word "grown" 5 (by decide +kernel)
      · exact h3 g hg
    refine (very_lst h1 (Nat.lt_of_lt_of_le (by rw [List.length_map]; omega : (gs.map D.str).length < 60) (Lw.small_size (by omega))) (strs_shown h3 (by omega)) (strs_shown hgr (by simp; omega))).mono ?_
    rintro e s' ⟨rfl, rfl⟩
    refine ⟨rfl, ⟨⟨"grown" :: gs, List.getElem?_set_self (List.getElem?_eq_some_iff.mp h1).1, by simp; omega, hgr⟩, ?_⟩, List.length_set .., fun j ha hb => List.getElem?_set_ne (Ne.symm ha)⟩
    rw [List.getElem?_set_ne hab]
    exact h.d
  · have fin : ∀ s', s' = s.set b (.dk [.inr "<", .inr "grown"] [.int 1, .int 1]) → b < s.length → VS a b (k + 1) s' ∧ s'.length = s.length ∧ ∀ j, j ≠ a → j ≠ b → s'[j]? = s[j]? := fun s' e hb => by
      subst e
      exact ⟨⟨⟨gs, by rw [List.getElem?_set_ne (Ne.symm hab)]; exact h1, by omega, h3⟩, .inr (List.getElem?_set_self hb)⟩, List.length_set .., fun j ha hb => List.getElem?_set_ne (Ne.symm hb)⟩
    rcases h.d with hd | hd
    · refine (very_dk (ks' := [.inr "<", .inr "grown"]) (xs' := [.int 1, .int 1]) hd (Nat.lt_of_lt_of_le (by decide : 1 < 5) (Lw.small_size (by omega))) dk_sh1 dk_sh2 (by unfold putG; simp [ng]) rfl).mono ?_
      rintro e s' ⟨rfl, hs⟩
      exact ⟨rfl, fin s' hs (List.getElem?_eq_some_iff.mp hd).1⟩
    · refine (very_dk (ks' := [.inr "<", .inr "grown"]) (xs' := [.int 1, .int 1]) hd (Nat.lt_of_lt_of_le (by decide : 2 < 5) (Lw.small_size (by omega))) dk_sh2 dk_sh2 (by unfold putG; simp [ng]) rfl).mono ?_
      rintro e s' ⟨rfl, hs⟩
      exact ⟨rfl, fin s' hs (List.getElem?_eq_some_iff.mp hd).1⟩
  · obtain ⟨t, ht⟩ := (hd.pl s).ty
    obtain ⟨n1, n2⟩ := hd.ty s t ht
    refine (very_flat ht n1 n2 hd.sh).mono ?_
    rintro e s' ⟨rfl, rfl⟩
    exact ⟨rfl, ⟨⟨gs, h1, by omega, h3⟩, h.d⟩, rfl, fun j _ _ => rfl⟩
theorem VS.plain {a b k : Nat} {s : List Cl} {d : D} (h : VS a b k s) (hd : d = .ref a ∨ d = .ref b ∨ FlatC d) : PlainV s d ∧ cellOk d = false := by
  obtain ⟨gs, h1, h2, h3⟩ := h.l
  rcases hd with rfl | rfl | hd
  · refine ⟨⟨⟨.lst, ?_⟩, fun xs e => by cases e⟩, rfl⟩
    show (match s[a]? with | some (.lst _) => some Ty.lst | some (.dk _ _) => some Ty.dct | _ => none) = _
    rw [h1]
  · refine ⟨⟨⟨.dct, ?_⟩, fun xs e => by cases e⟩, rfl⟩
    show (match s[b]? with | some (.lst _) => some Ty.lst | some (.dk _ _) => some Ty.dct | _ => none) = _
    rcases h.d with h | h <;> rw [h]
  · exact ⟨hd.pl s, hd.cell⟩
end Lw
set_option Elab.async false
set_option linter.all false
set_option maxRecDepth 100000
set_option maxHeartbeats 4000000
namespace Lw
open PySem PySem.Spec PyProof.Rows L2 DL DP TL
theorem at3_0 {a b c : D} : atI [a, b, c] 0 = some a := rfl
theorem at3_1 {a b c : D} : atI [a, b, c] 1 = some b := rfl
theorem at3_2 {a b c : D} : atI [a, b, c] 2 = some c := rfl
theorem cellD_at {c : List Str} : cellD c = .tup (c.map D.str) := rfl
theorem t_turns {f : M E} (hf : f = d__law_turns_right) {n m : Nat} {s : List Cl} {k turn : Int} (h : Bx n k s) (hk : k < 2 ^ 29) (hn : n < s.length) (h1 : 1 ≤ m) (h4 : m ≤ 4) (ht : turn = 0 ∨ turn = 1) :
    V1 f [.ref n, .int m, .int turn] s fun e s' => e = .v (.bl true) ∧ Bx n (k + 10) s' ∧ Up n s s' := by
  have hone : 1 ≤ sizeLine := Lw.small_size (by omega)
  have h2 : 2 ≤ sizeLine := Lw.small_size (by omega)
  have h44 : 4 ≤ sizeLine := Lw.small_size (by omega)
  have h9 : 9 ≤ sizeLine := Lw.small_size (by omega)
  have h10 : 10 ≤ sizeLine := Lw.small_size (by omega)
  have z0 : 0 ≤ sizeLine := Nat.zero_le _
  have hall := t_law_all (s := s) h4
  have hL := cellsD_small h4
  have hp := cellsD_len (n := m)
  have hpos : 0 < (cellsD m).length := by rw [hp]; exact Nat.pow_pos (by decide)
  rw [hf]
  unfold d__law_turns_right
  refine fn_val ?_
  unfold b__law_turns_right
  simp -dsimp [call1e hall]
  refine ok_call2 ((t_take h (by omega) (by omega) (by omega)).mono ?_)
  rintro e s1 ⟨⟨u, rfl, u0, u1⟩, B1, S1⟩
  obtain ⟨one, hone1, hat⟩ := DP.at_mem (xs := cellsD m) u0 u1
  obtain ⟨c, rfl, hc⟩ := cellsD_tup hone1
  obtain ⟨hcl, hcs⟩ := hc
  simp -dsimp [hat]
  refine ok_call2 ((t_take B1 (by omega) (by omega) (by omega)).mono ?_)
  rintro e s2 ⟨⟨pl, rfl, p0, p1⟩, B2, S2⟩
  simp -dsimp
  refine ok_call2 ((t_take B2 (by omega) (by omega) (by omega)).mono ?_)
  rintro e s3 ⟨⟨sh, rfl, sh0, sh1⟩, B3, S3⟩
  simp -dsimp [h2, h9, hone]
  refine ok_call2 ((t_take B3 (by omega) (by omega) (by omega)).mono ?_)
  rintro e s4 ⟨⟨ov, rfl, o0, o1⟩, B4, S4⟩
  obtain ⟨odd, hodd, hoat⟩ := DP.at_mem (xs := oddsC) o0 o1
  obtain ⟨oit, osg⟩ := oddsC_it odd hodd
  have hoat' : atI [D.str (Str.ofString "!"), .str (Str.ofString ""), .str (Str.ofString "<="), .non, .bl true, .int 0, .tup [.str (Str.ofString "<")], .lst [.str (Str.ofString "<")], .str (Str.ofString "==")] ov = some odd := hoat
  have S4' := ((S1.trans S2).trans S3).trans S4
  have hlen4 : s4.length = s.length := S4'.len
  have hcm : (c.map D.str).length = c.length := List.length_map ..
  have hz4 : c.length + 4 ≤ sizeLine := Lw.small_size (by omega)
  have hj : (c.map (·.length)).sum + c.length * 0 ≤ 16777216 := by rw [signs_sum hcs]; omega
  have hj2 : (c.map (·.length)).sum ≤ 16777216 := by rw [signs_sum hcs]; omega
  have e0 : (Str.ofString "").length = 0 := rfl
  have jn := fun ρ s => join_tstrs (ρ := ρ) (s := s) (a := Str.ofString "") (zs := c)
  rw [e0] at jn
  simp -dsimp [hoat', cellD_at]
  refine ok_lcY (xs := enumD (c.map D.str)) (swapC pl odd) (Lw.small_size (by rw [enumD_length, hcm]; omega)) (fun y hy => ?_) ?_
  · obtain ⟨i, z, rfl, hz⟩ := enumD_mem hy
    by_cases hi : (i : Int) = pl
    · simp -dsimp [hi, swapC]
    · simp -dsimp [hi, swapC]
  have swm := swapC_mem (xs := c.map D.str) (odd := odd) p0 (by rw [hcm]; omega)
  have itc : ∀ x ∈ c.map D.str, It x := fun x hx => by obtain ⟨g, hg, rfl⟩ := List.mem_map.mp hx; exact it_sign (hcs g hg)
  have five4 : ∀ x ∈ [D.str (Str.ofString "<"), .str (Str.ofString "="), .str (Str.ofString ">"), .str (Str.ofString "<")], It x := fun x hx => by
    simp only [List.mem_cons, List.not_mem_nil, or_false] at hx
    rcases hx with rfl | rfl | rfl | rfl <;> exact it_sign (by simp [signs])
  have hfive : ∃ F : List D, DL.cutD (c.map D.str ++ [D.str (Str.ofString "<"), .str (Str.ofString "="), .str (Str.ofString ">"), .str (Str.ofString "<")]) none (some 5) = F ∧ F.length = 5 ∧ ∀ x ∈ F, It x := by
    refine ⟨_, rfl, ?_, fun x hx => ?_⟩
    · unfold DL.cutD
      have e1 : HT.sIx (c.map D.str ++ [D.str (Str.ofString "<"), .str (Str.ofString "="), .str (Str.ofString ">"), .str (Str.ofString "<")]).length 0 none = 0 := rfl
      have e2 : HT.sIx (c.map D.str ++ [D.str (Str.ofString "<"), .str (Str.ofString "="), .str (Str.ofString ">"), .str (Str.ofString "<")]).length (c.map D.str ++ [D.str (Str.ofString "<"), .str (Str.ofString "="), .str (Str.ofString ">"), .str (Str.ofString "<")]).length (some 5) = 5 := by
        show min 5 _ = 5
        rw [List.length_append, hcm]
        simp
        omega
      rw [e1, e2, List.drop_zero, List.length_take, List.length_append, hcm]
      simp
      omega
    · rcases List.mem_append.mp (DP.cutD_mem hx) with hx | hx
      · exact itc x hx
      · exact five4 x hx
  obtain ⟨F, hF, hFl, hFi⟩ := hfive
  have hwrong : FlatC (.tup ((enumD (c.map D.str)).map (swapC pl odd))) := flatC_tup (fun x hx => by
    rcases swm.1 x hx with rfl | hx
    · exact oit
    · exact itc x hx) (by rw [List.length_map, enumD_length, hcm]; omega) (cell_odd swm.2 osg)
  have hF5 : FlatC (.tup F) := flatC_tup hFi (by omega) (cell_long (by omega))
  have hFr : FlatC (.tup F.reverse) := flatC_tup (fun x hx => hFi x (by simpa using hx)) (by rw [List.length_reverse]; omega) (cell_long (by rw [List.length_reverse]; omega))
  have hjs := join_signs hcs
  have hjn : FlatC (.str (Txt.join (Str.ofString "") c)) := flatC_leaf (t := .str) (fun s => rfl) (sh_str (k := 4) (by omega) hjs.2) (by decide) (fun xs q => by cases q) rfl (fun q => by cases q) (fun q => by cases q)
  have hz4' : c.length + 4 ≤ sizeLine := hz4
  generalize hWR : (enumD (c.map D.str)).map (swapC pl odd) = WR at *
  simp -dsimp [h44, hz4, hF, jn, hj2, z0, hone, h10]
  have hB4 := B4.up (k' := k + 10) (by omega)
  have hUp : Up n s (s4 ++ [Cl.lst (c.map D.str), Cl.dk [Sum.inr (Str.ofString "<")] [D.int 1]]) := (Up.same S4').trans Up.app
  have hVS : VS s4.length (s4.length + 1) 0 (s4 ++ [Cl.lst (c.map D.str), Cl.dk [Sum.inr (Str.ofString "<")] [D.int 1]]) :=
    ⟨⟨c, by simp, by omega, fun g hg => (sign_sh (hcs g hg)).up (by decide) (by decide) (fun h => h) fun h => h⟩, .inl (by simp)⟩
  have hval : ∀ d ∈ [D.ref s4.length, .str (Txt.join (Str.ofString "") c), .tup WR, .tup F, .tup [], .non, .tup [.tup (c.map D.str)], .ref (s4.length + 1), .int 3, .tup F.reverse], d = .ref s4.length ∨ d = .ref (s4.length + 1) ∨ FlatC d := fun d hd => by
    simp only [List.mem_cons, List.not_mem_nil, or_false] at hd
    rcases hd with rfl | rfl | rfl | rfl | rfl | rfl | rfl | rfl | rfl | rfl
    · exact .inl rfl
    · exact .inr (.inr hjn)
    · exact .inr (.inr hwrong)
    · exact .inr (.inr hF5)
    · exact .inr (.inr (flatC_tup (fun x hx => by cases hx) (by simp) rfl))
    · exact .inr (.inr (flatC_leaf (t := .non) (fun s => rfl) sh_non (by decide) (fun xs q => by cases q) rfl (fun q => by cases q) (fun q => by cases q)))
    · refine .inr (.inr (flatC_tup (fun x hx => ?_) (by simp) (cell_odd (List.mem_singleton.mpr rfl) rfl)))
      rw [List.mem_singleton.mp hx]
      exact it_of ⟨_, fun s => rfl⟩ (cell_sh hcs (by omega)) (ed_tup (n := 1) (by decide) fun x hx => by obtain ⟨g, hg, rfl⟩ := List.mem_map.mp hx; exact ed_str ((by decide +kernel : ∀ g ∈ signs, PyData.strOk g = true) g (hcs g hg))) (by decide) (by decide)
    · exact .inr (.inl rfl)
    · exact .inr (.inr (flatC_leaf (t := .int) (fun s => rfl) (sh_int (k := 64) (sz_small (by decide) (by decide)) (by decide)) (by decide) (fun xs q => by cases q) rfl (fun q => by cases q) (fun q => by cases q)))
    · exact .inr (.inr hFr)
  have hvl : [D.ref s4.length, .str (Txt.join (Str.ofString "") c), .tup WR, .tup F, .tup [], .non, .tup [.tup (c.map D.str)], .ref (s4.length + 1), .int 3, .tup F.reverse].length = 10 := rfl
  generalize hVL : [D.ref s4.length, .str (Txt.join (Str.ofString "") c), .tup WR, .tup F, .tup [], .non, .tup [.tup (c.map D.str)], .ref (s4.length + 1), .int 3, .tup F.reverse] = VL at *
  have hB0 : Bx n (k + 10) (s4 ++ [Cl.lst (c.map D.str), Cl.dk [Sum.inr (Str.ofString "<")] [D.int 1]]) := bx_app hB4
  have hbs : ∀ g ∈ c.map backS, g ∈ signs := fun g hg => by obtain ⟨x, hx, rfl⟩ := List.mem_map.mp hg; exact back_signs (hcs x hx)
  have e1 : D.tup (c.map D.str) = cellD c := rfl
  have shb := told_shown hbs (by rw [List.length_map]; omega)
  have rb := fun ρ s => rs_flst (ρ := ρ) (s := s) shb
  refine ok_forE ((List.range 10).map fun i => D.int (i : Nat)) (fun done rest ρ s5 => ∃ x9 x13 : Sl, Fr x9 ∧ Fr x13 ∧ Bx n (k + 10) s5 ∧ Up n s s5 ∧ VS s4.length (s4.length + 1) done.length s5 ∧
    ρ = [Sl.val (D.ref n), Sl.val (D.int m), Sl.val (D.int turn), Sl.val (D.lst (cellsD m)), Sl.val (D.tup (c.map D.str)), Sl.val odd, Sl.val (D.tup WR), Sl.val (D.tup F), Sl.val (D.lst VL), x9, Sl.no, Sl.val (D.int pl), Sl.val (D.int sh), x13, Sl.no])
    ⟨.no, .no, by simp, by simp, hB0, hUp, hVS, rfl⟩ ?_ ?_
  · rintro d rest done ρ s5 e ⟨x9, x13, f9, f13, B5, U5, V5, rfl⟩
    obtain ⟨hdl, rfl⟩ := DP.range_at e
    have hi0 : 0 ≤ (sh + (done.length : Nat)) % 10 := Int.emod_nonneg _ (by decide)
    have hi1 : (sh + (done.length : Nat)) % 10 < 10 := Int.emod_lt_of_pos _ (by decide)
    have ht2 : (turn + (done.length : Nat)) % 2 = 0 ∨ (turn + (done.length : Nat)) % 2 = 1 := by omega
    obtain ⟨v, hv, hvat⟩ := DP.at_mem (xs := VL) hi0 (by rw [hvl]; exact hi1)
    obtain ⟨vp, vc⟩ := V5.plain (hval v hv)
    have a1 := t_lturned_x ht2 vp vc
    have a2 := V5.grow (by omega) (by omega) (hval v hv)
    simp -dsimp [putSl_fr f9, hvat]
    refine ok_call2 (a1.mono ?_)
    rintro e s6 ⟨rfl, rfl⟩
    simp -dsimp [putSl_fr f13, hvat, at3_0, at3_1, at3_2]
    refine ok_call2 (a2.mono ?_)
    rintro e s7 ⟨rfl, V7, L7, O7⟩
    have a3 := t_lturned_ok (s := s7) ht2 (c := c) (by omega) (by omega) hcs
    have a4 := t_law_back (s := s7) (c := c) (by omega)
    rw [e1] at a4 ⊢
    have e2 : D.tup ((c.map backS).map D.str) = cellD (c.map backS) := rfl
    rw [e2] at a4
    generalize cellD (c.map backS) = cb at *
    generalize cellD c = cc at *
    simp -dsimp
    refine ok_call2 (a3.mono ?_)
    rintro e s8 ⟨rfl, rfl⟩
    simp -dsimp [rb, call1e a4, h2]
    have L6 := U5.len
    refine ⟨_, by simp, _, by simp, ?_, ?_, V7, rfl, rfl⟩
    · obtain ⟨c', c1, c2⟩ := B5
      exact ⟨c', by rw [O7 n (by omega) (by omega)]; exact c1, c2⟩
    · refine ⟨by rw [L7]; exact U5.len, fun j hj hn => ?_⟩
      rw [O7 j (by omega) (by omega)]
      exact U5.oth j hj hn
  · rintro ρ s5 ⟨x9, x13, f9, f13, B5, U5, V5, rfl⟩
    have hlong : ∃ L : List Str, DL.cutD (c.map D.str ++ (c.map D.str ++ (c.map D.str ++ c.map D.str))) none (some 4) = L.map D.str ∧ L.length = 4 ∧ ∀ g ∈ L, g ∈ signs := by
      refine ⟨(c ++ (c ++ (c ++ c))).take 4, ?_, ?_, fun g hg => ?_⟩
      · unfold DL.cutD
        have e1 : HT.sIx (c.map D.str ++ (c.map D.str ++ (c.map D.str ++ c.map D.str))).length 0 none = 0 := rfl
        have e2 : HT.sIx (c.map D.str ++ (c.map D.str ++ (c.map D.str ++ c.map D.str))).length (c.map D.str ++ (c.map D.str ++ (c.map D.str ++ c.map D.str))).length (some 4) = 4 := by
          show min 4 _ = 4
          simp
          omega
        rw [e1, e2, List.drop_zero, List.map_take, List.map_append, List.map_append, List.map_append]
      · rw [List.length_take]
        simp
        omega
      · have := List.mem_of_mem_take hg
        simp at this
        exact hcs g this
    obtain ⟨L, hLe, hLl, hLs⟩ := hlong
    have hLb : ∀ g ∈ L.map backS, g ∈ signs := fun g hg => by obtain ⟨x, hx, rfl⟩ := List.mem_map.mp hg; exact back_signs (hLs x hx)
    have z2 : c.length + c.length ≤ sizeLine := Lw.small_size (by omega)
    have z3 : c.length + c.length + c.length ≤ sizeLine := Lw.small_size (by omega)
    have z4 : c.length + c.length + c.length + c.length ≤ sizeLine := Lw.small_size (by omega)
    have z5 : c.length + (c.length + c.length) + c.length ≤ sizeLine := Lw.small_size (by omega)
    have z3' : c.length + (c.length + c.length) ≤ sizeLine := Lw.small_size (by omega)
    have z4' : c.length + (c.length + (c.length + c.length)) ≤ sizeLine := Lw.small_size (by omega)
    have a3 := t_lturned_ok (s := s5) ht (c := L) (by omega) (by omega) hLs
    have a4 := t_law_back (s := s5) (c := L) (by omega)
    have shl := told_shown hLb (by rw [List.length_map]; omega)
    have rl := fun ρ s => rs_flst (ρ := ρ) (s := s) shl
    have e2 : D.tup (L.map D.str) = cellD L := rfl
    have e3 : D.tup ((L.map backS).map D.str) = cellD (L.map backS) := rfl
    rw [e2, e3] at a4
    simp -dsimp [z2, z3, z4, z5, z3', z4', List.append_assoc, hLe]
    rw [e2]
    generalize cellD (L.map backS) = cb at *
    generalize cellD L = cc at *
    refine ok_call2 (a3.mono ?_)
    rintro e s8 ⟨rfl, rfl⟩
    simp -dsimp [rl, call1e a4, h2, Rt]
    exact ⟨B5, U5⟩
end Lw
set_option Elab.async false
set_option linter.all false
set_option maxRecDepth 100000
set_option maxHeartbeats 4000000
namespace Lw
open PySem L2 DL DP
theorem cells_sh {m : Nat} (h4 : m ≤ 4) : Sh 3 729 true false (.lst (cellsD m)) :=
  (sh_lst (n := 2) (w := 8) (b := false) (g := false) (by decide) fun x hx => by
    obtain ⟨c, rfl, hc⟩ := cellsD_tup hx
    exact cell_sh hc.2 (by have := hc.1; omega)).up (by decide) (by have := cellsD_small h4; omega) (fun h => h) fun h => h
theorem cells_shown {m : Nat} (h4 : m ≤ 4) : Shown (.lst (cellsD m)) := (cells_sh h4).shown (by decide) (by decide) rfl
/-- what is held: told lists with their texts -/
noncomputable def heldD (ms : List Nat) : List D := ms.map fun m => .lst [.lst (cellsD m), .str (rpS (.lst (cellsD m)))]
theorem t_all_right {f : M E} (hf : f = d__law_all_right) {s : List Cl} {a m : Nat} {bs : List Str} {form : D} {turn : Int} {ms : List Nat} (hh : s[a]? = some (.lst (heldD ms))) (hl : ms.length ≤ 1000) (hF : FormV bs form) (hm : bs.length = m) (h1 : 1 ≤ m) (h4 : m ≤ 4) (ht : turn = 0 ∨ turn = 1) :
    V1 f [form, .int m, .int turn, .ref a] s fun e s' => e = .v (.bl true) ∧ s' = s.set a (.lst (heldD (ms ++ [m]))) := by
  have h2 : 2 ≤ sizeLine := Lw.small_size (by omega)
  have hL := cellsD_small h4
  have hp : 0 < (cellsD m).length := by rw [cellsD_len]; exact Nat.pow_pos (by decide)
  have hlt : (cellsD m).length < sizeLine := Nat.lt_of_lt_of_le (by omega : (cellsD m).length < 100) (Lw.small_size (by omega))
  have hall := fun s => t_law_all (s := s) h4
  have hac := fun s => t_all_cells (s := s) hF (by omega) (by omega)
  rw [hm] at hac
  have sh := cells_shown h4
  have rv := fun ρ s => rs_v (ρ := ρ) (s := s) sh
  have p1 : ∀ ρ s, pickM [0] 1 [.v form] ρ s = .ok [.v form] ρ s := fun _ _ => rfl
  have hlh : (heldD ms).length < sizeLine := Nat.lt_of_lt_of_le (by unfold heldD; rw [List.length_map]; omega : (heldD ms).length < 2000) (Lw.small_size (by omega))
  have held2 : heldD ms ++ [.lst [.lst (cellsD m), .str (rpS (.lst (cellsD m)))]] = heldD (ms ++ [m]) := by unfold heldD; simp
  have apr := fun ρ => app_ref (ρ := ρ) (d := .lst [.lst (cellsD m), .str (rpS (.lst (cellsD m)))]) hh
  rw [held2] at apr
  have tyr := fun ρ => tyE_ref (ρ := ρ) hh
  have hlast : ∃ y, (cellsD m).reverse[(cellsD m).reverse.length - 1]? = some y := ⟨_, List.getElem?_eq_getElem (by rw [List.length_reverse]; omega)⟩
  obtain ⟨y, hy⟩ := hlast
  have conl : ∀ (ρ : List Sl) (xs : List D), ρ[4]? = some (.own (.lst xs)) → con (.l 4) ρ s = some (.lst xs) := fun ρ xs h => conl_own h
  rw [hf]
  unfold d__law_all_right
  refine fn_val ?_
  unfold b__law_all_right
  have fin : ∀ x4 : Sl, Ok (sSeq (sAsg (eFz (M.bind (esCons (eFz (eVar 0)) esNil) (gCall 1 d_all_cells))) (put 6)) (sSeq (sDrop (eBm "list" oAppend (eVar 3) (aCons (M.bind (eLst (aCons (M.bind (eVar 6) frz) (aCons (M.bind (M.bind (esCons (eVar 5) esNil) gRepr) frz) aNil))) frz) aNil))) (sRet (eAndV (M.bind (eVar 6) (gIsi (kitT "list" cls))) (eBin gEq (M.bind (esCons (eVar 6) esNil) gRepr) (M.bind (esCons (eVar 5) esNil) gRepr))))) [.val form, .val (.int m), .val (.int turn), .val (.ref a), x4, .val (.lst (cellsD m)), .no] s)
      fun fl ρ s' => 4 ≤ ρ.length ∧ Rt ρ s' (fun e s' => e = .v (.bl true) ∧ s' = s.set a (.lst (heldD (ms ++ [m])))) fl := fun x4 => by
    simp -dsimp
    refine ok_call1 ((hac s).mono ?_)
    rintro e s1 ⟨rfl, rfl⟩
    simp -dsimp [tyr, h2, rv, apr, hlh, k_list (t := .lst) rfl, Rt]
  have ins := fun ρ (h : ρ[4]? = some (.own (.lst (cellsD m)))) => ins_l (ρ := ρ) (s := s) (d := .non) h hlt
  have rvl := fun (ρ : List Sl) (h : ρ[4]? = some (.own (.lst (cellsD m)))) => rs_l (ρ := ρ) (s := s) (c := .lst (cellsD m)) h rfl sh
  have tyl := fun (xs : List D) (ρ : List Sl) (h : ρ[4]? = some (.own (.lst xs))) => tyE_l (ρ := ρ) (s := s) (conl_own h)
  have tyd := fun (ρ : List Sl) (h : ρ[4]? = some (.own (.lst (cellsD m)))) => (by
    show (match con (.l 4) ρ s with | some (.lst _) => some Ty.lst | some (.dk _ _) => some .dct | some (.dt _ _) => if (conW (.l 4) ρ s).isSome = true then some .dct else none | some (.ins c _ _) => some (.own c) | none => none) = some .lst
    rw [conl_own h] : tyD (.l 4) ρ s = some .lst)
  have hac0 := hac s
  rcases ht with rfl | rfl
  · simp -dsimp [-seq_nx]
    refine ok_call1 (hac0.mono ?_)
    rintro e s1 ⟨rfl, rfl⟩
    simp -dsimp [-seq_nx]
    rw [seq_nx]
    simp -dsimp [-seq_nx, call1e (hall s1)]
    rw [seq_nx]
    simp -dsimp [-seq_nx, tyd, k_list (t := .lst) rfl, rv, rvl, val_lst]
    rw [seq_nx]
    simp -dsimp [-seq_nx, tyl, ins]
    rw [seq_nx]
    exact fin _
  · simp -dsimp [-seq_nx, p1]
    refine ok_call1 (hac0.mono ?_)
    rintro e s1 ⟨rfl, rfl⟩
    simp -dsimp [-seq_nx]
    rw [seq_nx]
    simp -dsimp [-seq_nx, call1e (hall s1)]
    rw [seq_nx]
    simp -dsimp [-seq_nx, tyd, k_list (t := .lst) rfl, rv, rvl, val_lst]
    rw [seq_nx]
    have rev := fun (ρ : List Sl) (h : ρ[4]? = some (.own (.lst (cellsD m)))) => rev_l (ρ := ρ) (s := s1) h
    have pop := fun (ρ : List Sl) (h : ρ[4]? = some (.own (.lst (cellsD m).reverse))) => pop_l (ρ := ρ) (s := s1) h hy
    simp -dsimp [-seq_nx, tyl, rev]
    rw [seq_nx]
    simp -dsimp [-seq_nx, tyl, pop]
    rw [seq_nx]
    exact fin _
end Lw
set_option Elab.async false
set_option linter.all false
set_option maxRecDepth 100000
set_option maxHeartbeats 4000000
namespace Lw
open PySem L2 DL DP
theorem ok_mk1 {bs : List Str} {d : D} {ρ : List Sl} {s : List Cl} {Q : E → List Sl → List Cl → Prop} (h : d = .lst (bs.map D.str) ∨ d = .tup (bs.map D.str)) (hb : NamesOk bs) (q : ∀ c, FormV bs c.val → Q (.f c) ρ s) : Ok (gMake 2 (Str.ofString "Form") d_Form___init__ [.v d] ρ s) Q :=
  ok_make (ds := [d]) rfl (vi_mono (t_form h hb) fun c' s' ⟨h1, h2⟩ => by subst h2; exact q c' h1)
def nmA : List Str := ["b", "a", "dd", "c"]
def nmB : List Str := ["d", "cc", "b", "a"]
theorem word_name (x : String) (h : (decide (1 ≤ (Str.ofString x).length) && decide ((Str.ofString x).length ≤ 8) && ((Str.ofString x).cps.toList.all fun c => decide (97 ≤ c) && decide (c ≤ 122)) && decide (Str.ofString x ∉ noNames)) = true) : NameOk (Str.ofString x) := by
  simp only [Bool.and_eq_true, decide_eq_true_eq, List.all_eq_true] at h
  obtain ⟨⟨⟨h1, h2⟩, h3⟩, h4⟩ := h
  exact ⟨⟨h1, h2, h3⟩, h4⟩
theorem names_ok {bs : List Str} (hn : bs.Nodup) (hl : bs.length = 4) (h : ∀ x ∈ bs, NameOk x) {m : Nat} (h1 : 1 ≤ m) (h4 : m ≤ 4) : NamesOk (bs.take m) :=
  ⟨by rw [List.length_take]; omega, by rw [List.length_take]; omega, hn.sublist (List.take_sublist ..), fun x hx => h x (List.mem_of_mem_take hx)⟩
theorem nmA_ok {m : Nat} (h1 : 1 ≤ m) (h4 : m ≤ 4) : NamesOk (nmA.take m) := names_ok (by decide +kernel) rfl (fun x hx => by
  simp only [nmA, List.mem_cons, List.not_mem_nil, or_false] at hx
  rcases hx with rfl | rfl | rfl | rfl <;> exact word_name _ (by decide +kernel)) h1 h4
theorem nmB_ok {m : Nat} (h1 : 1 ≤ m) (h4 : m ≤ 4) : NamesOk (nmB.take m) := names_ok (by decide +kernel) rfl (fun x hx => by
  simp only [nmB, List.mem_cons, List.not_mem_nil, or_false] at hx
  rcases hx with rfl | rfl | rfl | rfl <;> exact word_name _ (by decide +kernel)) h1 h4
theorem cut_names {bs : List Str} (hl : bs.length = 4) {m : Nat} (h4 : m ≤ 4) : DL.cutD (bs.map D.str) none (some (m : Int)) = (bs.take m).map D.str := by
  unfold DL.cutD
  have e1 : HT.sIx (bs.map D.str).length 0 none = 0 := rfl
  have e2 : HT.sIx (bs.map D.str).length (bs.map D.str).length (some (m : Int)) = m := by
    show (if (m : Int) < 0 then ((m : Int) + ((bs.map D.str).length : Int)).toNat else min (m : Int).toNat (bs.map D.str).length) = m
    rw [if_neg (by omega), List.length_map]
    omega
  rw [e1, e2, List.drop_zero, Nat.sub_zero, List.map_take]
theorem t_law {ns : List Int} : V1 d_law [.scr ns] [] fun e s' => e = .v (.bl true) := by
  have z0 : 0 ≤ sizeLine := Nat.zero_le _
  have h2 : 2 ≤ sizeLine := Lw.small_size (by omega)
  have h44 : 4 ≤ sizeLine := Lw.small_size (by omega)
  obtain ⟨N, hN, hN6⟩ : ∃ N : Nat, (if (if (ns.length : Int) < 6 then (ns.length : Int) else 6) > 3 then (if (ns.length : Int) < 6 then (ns.length : Int) else 6) else 3) = (N : Int) ∧ N ≤ 6 := by
    refine ⟨(if (if (ns.length : Int) < 6 then (ns.length : Int) else 6) > 3 then (if (ns.length : Int) < 6 then (ns.length : Int) else 6) else 3).toNat, ?_, ?_⟩
    · split <;> (try split) <;> omega
    · split <;> (try split) <;> omega
  have hr := fun ρ s => DP.w_r1n (m := N) (ρ := ρ) (s := s) (by omega)
  unfold d_law
  refine fn_val ?_
  unfold b_law
  simp -dsimp [z0, hN, -w_r1, hr, -seq_nx]
  rw [seq_nx]
  simp -dsimp [z0, hN, -w_r1, hr, -seq_nx]
  refine ok_forE ((List.range N).map fun i => D.int (i : Nat)) (fun done rest ρ s => ∃ (ms : List Nat) (x2 x3 x4 x5 x6 x7 x8 x9 x10 : Sl), Fr x2 ∧ Fr x3 ∧ Fr x4 ∧ Fr x5 ∧ Fr x6 ∧ Fr x7 ∧ Fr x8 ∧ Fr x9 ∧ Fr x10 ∧ s[0]? = some (.lst (heldD ms)) ∧ ms.length = 4 * done.length ∧ (∀ m ∈ ms, m ≤ 4) ∧
    ρ = [.val (.scr ns), .val (.ref 0), x2, x3, x4, x5, x6, x7, x8, x9, x10, .no, .no])
    ⟨[], .no, .no, .no, .no, .no, .no, .no, .no, .no, by simp, by simp, by simp, by simp, by simp, by simp, by simp, by simp, by simp, rfl, rfl, (fun m hm => by cases hm), rfl⟩ ?_ ?_
  · rintro d rest done ρ s e ⟨ms, x2, x3, x4, x5, x6, x7, x8, x9, x10, f2, f3, f4, f5, f6, f7, f8, f9, f10, hs0, hml, hms, rfl⟩
    obtain ⟨hdl, rfl⟩ := DP.range_at e
    simp -dsimp [putSl_fr f2, -seq_nx]
    refine ok_call2 ((t_cell (by omega)).mono ?_)
    rintro e s1 ⟨⟨i, rfl⟩, rfl⟩
    simp -dsimp [-seq_nx]
    refine ok_call1 (t_box.mono ?_)
    rintro e s2 ⟨⟨c, rfl, hc⟩, rfl⟩
    simp -dsimp [putSl_fr f3, -seq_nx]
    rw [seq_nx]
    have h0l : 0 < s2.length := (List.getElem?_eq_some_iff.mp hs0).1
    have B0 : Bx s2.length 0 (s2 ++ [c]) := ⟨c, by simp, hc⟩
    have g0 : (s2 ++ [c])[0]? = some (.lst (heldD ms)) := by rw [List.getElem?_append_left h0l]; exact hs0
    have hlen : (s2 ++ [c]).length = s2.length + 1 := by simp
    generalize (s2 ++ [c]) = s at *
    generalize hb : s2.length = b at *
    simp -dsimp [-seq_nx]
    refine ok_call2 ((t_take B0 (by omega) (by omega) (by omega)).mono ?_)
    rintro e s3 ⟨⟨turn, rfl, tu0, tu1⟩, B3, S3⟩
    simp -dsimp [-seq_nx]
    refine ok_call2 ((t_take B3 (by omega) (by omega) (by omega)).mono ?_)
    rintro e s4 ⟨⟨u, rfl, u0, u1⟩, B4, S4⟩
    simp -dsimp [-seq_nx]
    refine ok_call2 ((t_take B4 (by omega) (by omega) (by omega)).mono ?_)
    rintro e s5 ⟨⟨v, rfl, v0, v1⟩, B5, S5⟩
    have S5' := (S3.trans S4).trans S5
    have g5 : s5[0]? = some (.lst (heldD ms)) := by rw [S5'.oth 0 (by omega)]; exact g0
    have hl5 := S5'.len
    obtain ⟨ma, hma, ma1, ma4⟩ : ∃ m : Nat, 1 + u = (m : Int) ∧ 1 ≤ m ∧ m ≤ 4 := ⟨(1 + u).toNat, by omega, by omega, by omega⟩
    obtain ⟨mb, hmb, mb1, mb4⟩ : ∃ m : Nat, 1 + v = (m : Int) ∧ 1 ≤ m ∧ m ≤ 4 := ⟨(1 + v).toNat, by omega, by omega, by omega⟩
    have cA : DL.cutD [D.str (Str.ofString "b"), .str (Str.ofString "a"), .str (Str.ofString "dd"), .str (Str.ofString "c")] none (some (ma : Int)) = (nmA.take ma).map D.str := cut_names (bs := nmA) rfl ma4
    have cB : DL.cutD [D.str (Str.ofString "d"), .str (Str.ofString "cc"), .str (Str.ofString "b"), .str (Str.ofString "a")] none (some (mb : Int)) = (nmB.take mb).map D.str := cut_names (bs := nmB) rfl mb4
    simp -dsimp [putSl_fr f6, putSl_fr f7, putSl_fr f8, hma, hmb, -seq_nx]
    rw [seq_nx]
    simp -dsimp [h44, cA, -List.map_take, -seq_nx]
    refine ok_mk1 (.inl (congrArg D.lst cA)) (nmA_ok ma1 ma4) fun cf hF => ?_
    simp -dsimp [h44, cB, -List.map_take, -seq_nx]
    refine ok_mk1 (.inr rfl) (nmB_ok mb1 mb4) fun cg hG => ?_
    simp -dsimp [h2, putSl_fr f4, -seq_nx]
    rw [seq_nx]
    have lA : (nmA.take ma).length = ma := by rw [List.length_take]; show min ma 4 = ma; omega
    have lB : (nmB.take mb).length = mb := by rw [List.length_take]; show min mb 4 = mb; omega
    generalize cf.val = F at *
    generalize cg.val = G at *
    generalize nmA.take ma = bA at *
    generalize nmB.take mb = bB at *
    have htu : turn = 0 ∨ turn = 1 := by omega
    simp -dsimp [-seq_nx]
    refine ok_forE ((List.range 4).map fun i => D.int (i : Nat)) (fun done2 rest2 ρ s6 => ∃ (ms2 : List Nat) (y5 y9 y10 : Sl), Fr y5 ∧ Fr y9 ∧ Fr y10 ∧ s6[0]? = some (.lst (heldD ms2)) ∧ ms2.length = 4 * done.length + done2.length ∧ (∀ m ∈ ms2, m ≤ 4) ∧ b < s6.length ∧ Bx b (3 + 300 * done2.length) s6 ∧
      ρ = [.val (.scr ns), .val (.ref 0), .val (.int (done.length : Nat)), .val (.ref b), .val (.lst [F, G]), y5, .val (.int turn), .val (.int ma), .val (.int mb), y9, y10, .no, .no])
      ⟨ms, x5, x9, x10, f5, f9, f10, g5, by simp [hml], hms, by omega, B5.up (by simp), rfl⟩ ?_ ?_
    · rintro d rest2 done2 ρ s6 e2 ⟨ms2, y5, y9, y10, q5, q9, q10, hs6, hm2, hms2, hb6, B6, rfl⟩
      obtain ⟨hdl2, rfl⟩ := DP.range_at e2
      generalize hjj : done2.length = j at *
      obtain ⟨fo, mc, bs, ha1, ha2, hFo, hlo, hc1, hc4⟩ : ∃ (fo : D) (mc : Nat) (bs : List Str), atI [F, G] ((j : Int) % 2) = some fo ∧ atI [D.int ma, .int mb] ((j : Int) % 2) = some (.int mc) ∧ FormV bs fo ∧ bs.length = mc ∧ 1 ≤ mc ∧ mc ≤ 4 := by
        have : (j : Int) % 2 = 0 ∨ (j : Int) % 2 = 1 := by omega
        rcases this with h | h <;> rw [h]
        · exact ⟨F, ma, bA, rfl, rfl, hF, lA, ma1, ma4⟩
        · exact ⟨G, mb, bB, rfl, rfl, hG, lB, mb1, mb4⟩
      have t1 : (turn + (j : Int)) % 2 = 0 ∨ (turn + (j : Int)) % 2 = 1 := by omega
      have t2 : (turn + (j : Int) / 2) % 2 = 0 ∨ (turn + (j : Int) / 2) % 2 = 1 := by omega
      have l22 : Nat.log2 2 < 9000 := by decide
      simp -dsimp [putSl_fr q5, ha1, ha2, h2, putSl_fr q9, putSl_fr q10, -seq_nx]
      rw [seq_nx]
      simp -dsimp [-seq_nx]
      refine ok_call4 ((t_all_right rfl hs6 (by omega) hFo hlo hc1 hc4 t1).mono ?_)
      rintro e s7 ⟨rfl, rfl⟩
      have hs7 : (s6.set 0 (.lst (heldD (ms2 ++ [mc]))))[0]? = some (.lst (heldD (ms2 ++ [mc]))) := List.getElem?_set_self (by omega)
      have B7 : Bx b (3 + 300 * j) (s6.set 0 (.lst (heldD (ms2 ++ [mc])))) := bx_oth B6 (by omega)
      have hb7 : b < (s6.set 0 (.lst (heldD (ms2 ++ [mc])))).length := by rw [List.length_set]; exact hb6
      generalize s6.set 0 (.lst (heldD (ms2 ++ [mc]))) = s7 at *
      simp -dsimp [-seq_nx]
      rw [seq_nx]
      simp -dsimp [l22, -seq_nx]
      have hrr := t_rows (f := d__law_rows_right) rfl B7 (by omega) hb7 hFo hlo hc1 hc4 t2
      generalize d__law_rows_right = dd at hrr ⊢
      refine ok_call4 (hrr.mono ?_)
      rintro e s8 ⟨rfl, B8, U8⟩
      have hs8 : s8[0]? = some (.lst (heldD (ms2 ++ [mc]))) := by rw [U8.oth 0 (by omega) (by omega)]; exact hs7
      have hb8 := U8.len
      have mall : ∀ m ∈ ms2 ++ [mc], m ≤ 4 := fun m hm => by
        rcases List.mem_append.mp hm with hm | hm
        · exact hms2 m hm
        · rw [List.mem_singleton.mp hm]; exact hc4
      simp -dsimp [-seq_nx]
      rw [seq_nx]
      by_cases hj2 : (j : Int) < 2
      · simp -dsimp [hj2, -seq_nx]
        have htt := t_turns (f := d__law_turns_right) rfl B8 (by omega) (by omega) hc1 hc4 htu
        generalize d__law_turns_right = dd2 at htt ⊢
        refine ok_call3 (htt.mono ?_)
        rintro e s9 ⟨rfl, B9, U9⟩
        have hs9 : s9[0]? = some (.lst (heldD (ms2 ++ [mc]))) := by rw [U9.oth 0 (by omega) (by omega)]; exact hs8
        have hb9 := U9.len
        simp -dsimp [-seq_nx]
        exact ⟨ms2 ++ [mc], _, by simp, _, by simp, _, by simp, hs9, by simp [hm2]; omega, mall, by omega, B9.up (by omega), rfl, rfl, rfl⟩
      · simp -dsimp [hj2, -seq_nx]
        exact ⟨ms2 ++ [mc], _, by simp, _, by simp, _, by simp, hs8, by simp [hm2]; omega, mall, by omega, B8.up (by omega), rfl, rfl, rfl⟩
    · rintro ρ s6 ⟨ms2, y5, y9, y10, q5, q9, q10, hs6, hm2, hms2, hb6, B6, rfl⟩
      have hl4 : ((List.range 4).map fun i => D.int (i : Nat)).length = 4 := by simp
      rw [hl4] at hm2
      exact ⟨ms2, _, _, _, y5, _, _, _, y9, y10, by simp, by simp, by simp, q5, by simp, by simp, by simp, q9, q10, hs6, by simp [hm2]; omega, hms2, rfl⟩
  · rintro ρ s ⟨ms, x2, x3, x4, x5, x6, x7, x8, x9, x10, f2, f3, f4, f5, f6, f7, f8, f9, f10, hs0, hml, hms, rfl⟩
    have hl4 : ((List.range N).map fun i => D.int (i : Nat)).length = N := by simp
    rw [hl4] at hml
    rw [seq_nx]
    simp -dsimp [hs0]
    refine ok_lcCP (xs := heldD ms) (w := ⟨heldD ms, some (0, heldD ms)⟩) hs0 (fun _ => false) id (Lw.small_size (by unfold heldD; rw [List.length_map]; omega)) (fun y hy => ?_) ?_
    · obtain ⟨m, hm, rfl⟩ := List.mem_map.mp hy
      have rv := fun ρ s => rs_v (ρ := ρ) (s := s) (cells_shown (hms m hm))
      simp -dsimp [rv]
    · rw [List.filter_eq_nil_iff.mpr (fun _ _ => by simp)]
      simp -dsimp [DP.eqZ_f, Rt]
theorem law_true : LawTrue d_law 63 := fun ns _ _ => by
  have h := t_law (ns := ns)
  unfold V1 at h
  obtain ⟨e, ρ, s, h1, h2, h3, h4⟩ := ok_iff.mp h
  exact ⟨ρ, s, by rw [← h4]; exact h1⟩
end Lw
set_option Elab.async false
set_option linter.all false
set_option maxRecDepth 100000
set_option maxHeartbeats 4000000
/-! DH1: what the top leaves, read by a Hook, for the words of the printed texts. -/
namespace DH
open PySem PySem.Spec PyProof.Rows L2 DL

/-! ### the Hook: defs, facts, tables, own Bools -/
abbrev AlY : Type := He.AlT × Bool
def obsY (fa : List He.Fa) (fn : List He.DefD) (ts : List He.Tab) (ex : PySem.W.Frag → Bool) (K : PySem.W.Frag) : AlY := (He.obsT fa fn ts K, ex K)
def valY (fn : List He.DefD) (ts : List He.Tab) (w : World) : AlY := (He.valT fn ts w, true)
def obsYG (n : Nat) (fa : List He.Fa) (fn : List He.DefD) (ts : List He.Tab) (ex : PySem.W.Frag → Bool) (g : Addr → Option Obj) : AlY := obsY fa fn ts ex (He.frG g (He.asD g n ++ [cStatics]))
structure Says (fa : List He.Fa) (fn : List He.DefD) (ts : List He.Tab) (ex : PySem.W.Frag → Bool) (w : World) (K : PySem.W.Frag) : Prop where
  t : obsY fa fn ts ex K = valY fn ts w
def hookY (n : Nat) (fa : List He.Fa) (fn : List He.DefD) (ts : List He.Tab) (ex : PySem.W.Frag → Bool) : PySem.W.Hook where
  α := AlY
  obs := fun s => obsYG n fa fn ts ex s.heap.get?
  val := fun w => valY fn ts w
  says := fun w h => ∃ K : PySem.W.Frag, K.In h ∧ Says fa fn ts ex w K
  of := fun _ _ e => ⟨_, He.frG_in, ⟨e⟩⟩
  keeps := fun _ _ _ ⟨K, hK, c⟩ k => ⟨K, PySem.W.Frag.In.keeps hK k, c⟩
theorem obsYG_eq {n : Nat} {fa : List He.Fa} {fn : List He.DefD} {ts : List He.Tab} {ex : PySem.W.Frag → Bool} {g : Addr → Option Obj} {s : Shared} (h : ∀ a, g a = s.heap.get? a) : obsYG n fa fn ts ex g = (hookY n fa fn ts ex).obs s := by
  have e : g = s.heap.get? := funext h
  rw [e] <;> rfl
section
variable {fa : List He.Fa} {fn : List He.DefD} {ts : List He.Tab} {ex : PySem.W.Frag → Bool} {w : World} {K : PySem.W.Frag}
theorem Says.tt (c : Says fa fn ts ex w K) : He.SaysT fa fn ts w K := congrArg (fun z : AlY => z.1) c.t
theorem Says.more (c : Says fa fn ts ex w K) : ex K = true := congrArg (fun z : AlY => z.2) c.t
theorem Says.fact (c : Says fa fn ts ex w K) (i : Nat) {f : He.Fa} (h : fa[i]? = some f := by rfl) : f.ok K = true := c.tt.d.fact i h
theorem Says.def_ (c : Says fa fn ts ex w K) (i : Nat) {d : He.DefD} (h : fn[i]? = some d := by rfl) : ∃ fd, FunD K d.name d.qual d.params d.body d.scope (d.dvs K) (d.kws K) (He.fAd K d.at_) fd := c.tt.d.def_ i h
theorem Says.tab (c : Says fa fn ts ex w K) (i : Nat) {t : He.Tab} (h : ts[i]? = some t := by rfl) : He.dicW K (t.1 K) = some (He.keysIn w.params t.2) := by
  have e : ts.map (fun t => He.dicW K (t.1 K)) = ts.map fun t => some (He.keysIn w.params t.2) := congrArg (fun z : He.AlT => z.2) c.tt
  have e2 : (ts.map fun t => He.dicW K (t.1 K))[i]? = (ts.map fun t => some (He.keysIn w.params t.2))[i]? := by rw [e]
  rw [List.getElem?_map, List.getElem?_map, h] at e2
  exact Option.some.inj e2
end
/-- one of several Bools -/
theorem bAt {bs : List Bool} (h : bs.all id = true) (i : Nat) {b : Bool} (e : bs[i]? = some b := by rfl) : b = true := List.all_eq_true.mp h b (List.mem_of_getElem? e)

/-! ### defs -/
/-- a def of the text: where it stands, its name, its qualified name, the statement -/
def dOf (a : Str × Option Str) (x q : Str) (st : Stmt) : He.DefD := ⟨a, x, q, defArgs st, defBody st, defScope st, [], []⟩
theorem fun_of {K : PySem.W.Frag} {x q : Str} {st : Stmt} {f : Addr} {fd : FuncData} {dvs : List V} {kws : List (Str × V)} (F : FunD K x q (defArgs st) (defBody st) (defScope st) dvs kws f fd) (hd : dvs = []) : L2.Fun K x q st f fd := by
  subst hd
  obtain ⟨oc, od, dV, kV, doc, pm, an, cdv, ct, osl, rfl, lk, hcd, hdf, _⟩ := F.ex
  rcases hdf with ⟨_, e⟩ | ⟨n, _⟩
  · subst e
    exact ⟨⟨oc, od, kV, doc, pm, an, cdv, ct, osl, rfl, lk, hcd⟩, F.kp⟩
  · exact absurd rfl n
theorem Says.fn {fa : List He.Fa} {fn : List He.DefD} {ts : List He.Tab} {ex : PySem.W.Frag → Bool} {w : World} {K : PySem.W.Frag} (c : Says fa fn ts ex w K) (i : Nat) {a : Str × Option Str} {x q : Str} {st : Stmt} (h : fn[i]? = some (dOf a x q st) := by rfl) : ∃ fd, L2.Fun K x q st (He.fAd K a) fd := by
  obtain ⟨fd, F⟩ := c.def_ i h
  exact ⟨fd, fun_of F rfl⟩
theorem fd_eq {K : PySem.W.Frag} {x q : Str} {st : Stmt} {f : Addr} {fd fd' : FuncData} (F : L2.Fun K x q st f fd) (h : FdAt K f fd') : fd' = fd := by
  obtain ⟨oc, od, kV, doc, pm, an, cdv, ct, osl, rfl, lk, hcd⟩ := F.ex
  obtain ⟨o, lo, ho⟩ := h
  rw [lk] at lo
  cases lo
  cases ho
  rfl

/-! ### constants -/
section
variable {K : PySem.W.Frag} {h : Heap} {mg : Str → Option Value} {w : World}
theorem gs_of (X : K.In h) (Gm : h.Ns mainGlobals mg) {x z : Str} (c : (He.Fa.str x z).ok K = true) : ∃ u, mg x = some u ∧ RelV (.str z) u := by
  obtain ⟨t, e⟩ := He.str_ok X Gm c
  exact ⟨_, e, t, rfl⟩
theorem gi_of (X : K.In h) (Gm : h.Ns mainGlobals mg) {x : Str} {i : Int} (c : (He.Fa.int x i).ok K = true) : ∃ u, mg x = some u ∧ RelV (.int i) u := by
  obtain ⟨t, e⟩ := He.int_ok X Gm c
  exact ⟨_, e, t, rfl⟩
theorem repL_str {P : Par} {F : Hp} {m : List Addr} : ∀ xs : List Str, RepL P F m (xs.map V.str) (xs.map D.str)
  | [] => .nil
  | x :: r => .cons (.str x) (repL_str r)
/-- a tuple of texts that the module holds -/
def ktB (x : Str) (xs : List Str) (K : PySem.W.Frag) : Bool := He.tupB K x (xs.map He.Dv.str)
theorem kt_of (X : K.In h) (Gm : h.Ns mainGlobals mg) {x : Str} {xs : List Str} {d : D} (g : (He.Fa.glo x).ok K = true) (c : ktB x xs K = true) (hd : d = .kt (xs.map D.str)) : KtAt K mg x d := by
  subst hd
  refine ⟨_, He.glo_ok X Gm g, fun F m G => .kt (vs := (xs.map He.Dv.str).map (He.Dv.v K)) (fun H => He.tupB_ok c H) ?_⟩
  rw [List.map_map]
  exact repL_str xs
theorem isStr_key {e : DictEntry} {k : Str} {q : Int} (h : He.keyOf e = some (k, q)) (z : Str) : e.key.isStr z = (k == z) ∧ e.refKey = false := by
  unfold He.keyOf at h
  split at h
  · rename_i x t hx
    cases h
    unfold DictEntry.refKey
    rw [hx]
    exact ⟨rfl, rfl⟩
  · cases h
theorem find_keys (z : Str) : ∀ {es : List DictEntry} {ks : List Str} {P : Params}, es.map He.keyOf = He.keysIn P ks → (es.find? (·.key.isStr z)).isSome = ks.contains z ∧ es.any (·.refKey) = false
  | [], [], _, _ => ⟨rfl, rfl⟩
  | [], _ :: _, _, h => by cases h
  | _ :: _, [], _, h => by cases h
  | e :: es, k :: ks, P, h => by
    have h1 : He.keyOf e :: es.map He.keyOf = some (k, PyData.keyHash P k) :: He.keysIn P ks := h
    injection h1 with h2 h3
    obtain ⟨a1, a2⟩ := isStr_key h2 z
    obtain ⟨b1, b2⟩ := find_keys z h3
    refine ⟨?_, ?_⟩
    · rw [List.find?_cons, a1, List.contains_cons]
      have : (z == k) = (k == z) := by
        by_cases q : k = z
        · rw [q]
        · rw [beq_false_of_ne q, beq_false_of_ne (fun y => q y.symm)]
      rw [this]
      cases k == z with
      | true => rfl
      | false => rw [Bool.false_or]; exact b1
    · rw [List.any_cons, a2, b2] <;> rfl
theorem kd_of (X : K.In h) (Gm : h.Ns mainGlobals mg) {x : Str} {ks : List Str} (g : (He.Fa.glo x).ok K = true) (c : He.dicW K (He.ga K x) = some (He.keysIn w.params ks)) : KdAt K w mg x ks := by
  obtain ⟨es, n, D⟩ := He.dicW_ok c
  refine ⟨_, es, n, He.glo_ok X Gm g, D, fun z => ?_⟩
  have e : es.toList.map He.keyOf = He.keysIn w.params ks := by
    have c1 := c
    unfold He.dicW at c1
    rw [D.at_] at c1
    have c2 : (match decide (("dict" : String) = "dict") && ((#[] : Array (Option Value)).isEmpty && !(He.ga K x == sysModules)) with
      | true => some (es.toList.map He.keyOf)
      | false => none) = some (He.keysIn w.params ks) := c1
    rw [D.low] at c2
    exact Option.some.inj c2
  obtain ⟨e1, e2⟩ := find_keys z e
  have hn : PySem.W.nsIn K (He.ga K x) z = match es.toList.find? (·.key.isStr z) with
    | some e => some (some e.val)
    | none => if es.toList.any (·.refKey) then none else some none := by
    unfold PySem.W.nsIn
    rw [D.at_] <;> rfl
  rw [hn]
  cases q : es.toList.find? (·.key.isStr z) with
  | some e =>
    rw [q] at e1
    exact ⟨_, rfl, by rw [← e1] <;> rfl⟩
  | none =>
    rw [q] at e1
    refine ⟨none, ?_, by rw [← e1] <;> rfl⟩
    show (if es.toList.any (·.refKey) = true then none else some none) = some none
    rw [e2]
    rfl
end

/-! ### own classes -/
def oB (a b : Option Bool) : Bool := decide (a = b)
def insB (C : Addr) (K : PySem.W.Frag) : Bool := He.eqO (PySem.W.findIn K (.ref C) "__class__") (some (some (.builtin "object.__class__"))) && (He.eqO (PySem.W.specialIn K (.builtin "object.__class__") "__get__") (some (some (.builtin "getset_descriptor.__get__"))) &&
  (oB (PySem.W.takesIn K (.builtin "object.__class__")) (some true) && (oB (PySem.W.mroIn K C (.type "object")) (some true) && oB (PySem.W.kitOne K (.ref C) (.ref C)) (some true))))
theorem insB_ok {K : PySem.W.Frag} {C : Addr} (cl : Cls K C) (h : insB C K = true) : C8.InsC K C := by
  obtain ⟨h1, h⟩ := He.ba h
  obtain ⟨h2, h⟩ := He.ba h
  obtain ⟨h3, h⟩ := He.ba h
  obtain ⟨h4, h5⟩ := He.ba h
  exact ⟨cl, He.eqO_ok h1, He.eqO_ok h2, of_decide_eq_true h3, of_decide_eq_true h4, of_decide_eq_true h5⟩
abbrev basT : List String := ["NoneType", "bool", "int", "str", "list", "tuple", "dict"]
/-- what isinstance asks of all own classes -/
def ownB (cs : List Str) (Ts : List String) (K : PySem.W.Frag) : Bool := (cs.all fun c => (He.Fa.cls c).ok K && insB (He.ga K c) K) && ((cs.all fun c => Ts.all fun T => oB (PySem.W.kitOne K (.ref (He.ga K c)) (.type T)) (some false)) &&
  ((cs.all fun c => cs.all fun c' => oB (PySem.W.kitOne K (.ref (He.ga K c)) (.ref (He.ga K c'))) (some (c == c'))) && (basT.all fun n => cs.all fun c => oB (PySem.W.kitOne K (.type n) (.ref (He.ga K c))) (some false))))
theorem ownB_cls {K : PySem.W.Frag} {cs : List Str} {Ts : List String} (h : ownB cs Ts K = true) : ∀ c ∈ cs, Cls K (He.ga K c) := fun c hc => He.cls_ok (He.ba (List.all_eq_true.mp (He.ba h).1 c hc)).1
theorem ownB_ok {K : PySem.W.Frag} {cs : List Str} {Ts : List String} (h : ownB cs Ts K = true) : OwnCls K (He.ga K) cs Ts := by
  have hc := ownB_cls h
  obtain ⟨h1, h⟩ := He.ba h
  obtain ⟨h2, h⟩ := He.ba h
  obtain ⟨h3, h4⟩ := He.ba h
  exact ⟨fun c m => insB_ok (hc c m) (He.ba (List.all_eq_true.mp h1 c m)).2, fun c m T mT => of_decide_eq_true (List.all_eq_true.mp (List.all_eq_true.mp h2 c m) T mT), fun c m c' m' => of_decide_eq_true (List.all_eq_true.mp (List.all_eq_true.mp h3 c m) c' m'),
    fun n mn c m => of_decide_eq_true (List.all_eq_true.mp (List.all_eq_true.mp h4 n mn) c m)⟩
def attB (cs : List Str) (f : Str) (K : PySem.W.Frag) : Bool := cs.all fun c => (He.Fa.noat c f).ok K
theorem att_of {K : PySem.W.Frag} {cs : List Str} {f : Str} (hc : ∀ c ∈ cs, Cls K (He.ga K c)) (h : attB cs f K = true) : Attrs K (He.ga K) cs f := ⟨hc, fun c m => He.noat_ok (List.all_eq_true.mp h c m)⟩

/-! ### own errors -/
def exB (B : Addr) (K : PySem.W.Frag) : Bool := PySem.W.readsIn K B (.type "type") && (He.eqO (PySem.W.specialIn K (.ref B) "__getattribute__") (some (some (.builtin "type.__getattribute__"))) &&
  (match PySem.W.findCls K (.ref B) (.type "type") "__init__" with
  | some (.val (.builtin n)) => n == "Exception.__init__"
  | _ => false))
theorem exB_ok {K : PySem.W.Frag} {B : Addr} (h : exB B K = true) : ExB K B := by
  obtain ⟨h1, h⟩ := He.ba h
  obtain ⟨h2, h3⟩ := He.ba h
  refine ⟨h1, He.eqO_ok h2, ?_⟩
  split at h3
  · rename_i n e
    rw [e, eq_of_beq h3]
  · cases h3
/-- the class object of an own error -/
def clsB (C : Addr) (K : PySem.W.Frag) : Bool := match K.lookup C with
  | some ⟨.type t, _, .cls cd, sl⟩ => (t == "type") && ((match cd.mro with
    | .ref c :: bm => (c == C) && refsEX bm
    | _ => false) && (cd.hasDict && (!cd.hasDel && (match sl.toList with
    | [_, _, _, _, some (.builtin n), _] => n == "Exception.__new__"
    | _ => false))))
  | _ => false
theorem sl_ok {l : List (Option Value)} (h : (match l with
    | [_, _, _, _, some (.builtin n), _] => n == "Exception.__new__"
    | _ => false) = true) : ∃ k0 k1 k2 k3 k5, l = [k0, k1, k2, k3, some (.builtin "Exception.__new__"), k5] := by
  split at h
  · rename_i k0 k1 k2 k3 n k5
    have e3 := eq_of_beq h
    subst e3
    exact ⟨_, _, _, _, _, rfl⟩
  · cases h
theorem clsB_ok {K : PySem.W.Frag} {C : Addr} (h : clsB C K = true) : ∃ nm q N bs bm sn sub ab col dd k0 k1 k2 k3 k5, K.lookup C = some (excClassObj nm q C N bs bm true sn sub ab col dd k0 k1 k2 k3 k5 "Exception.__new__") ∧ refsEX bm = true := by
  unfold clsB at h
  split at h
  · rename_i t dd cd sl e
    obtain ⟨h1, h⟩ := He.ba h
    obtain ⟨h2, h⟩ := He.ba h
    obtain ⟨h3, h⟩ := He.ba h
    obtain ⟨h4, h5⟩ := He.ba h
    obtain ⟨nm, bs, mro, ns, qn, hd, sn, sb, ab, col, del⟩ := cd
    have e1 := eq_of_beq h1
    subst e1
    dsimp only at h2 h3 h4
    have e5 : del = false := by
      cases del with
      | false => rfl
      | true => cases h4
    subst e5 h3
    cases mro with
    | nil => cases h2
    | cons v bm =>
      cases v with
      | ref c =>
        obtain ⟨h6, h7⟩ := He.ba (show ((c == C) && refsEX bm) = true from h2)
        have e2 : c = C := eq_of_beq h6
        subst e2
        obtain ⟨k0, k1, k2, k3, k5, es⟩ := sl_ok h5
        have e4 : sl = #[k0, k1, k2, k3, some (.builtin "Exception.__new__"), k5] := by
          rw [← Array.toArray_toList (xs := sl), es]
        subst e4
        exact ⟨nm, qn, ns, bs, bm, sn, sb, ab, col, dd, k0, k1, k2, k3, k5, e, h7⟩
      | _ => cases h2
  · cases h
def oexB (C : Addr) (K : PySem.W.Frag) : Bool := clsB C K && (He.eqO (PySem.W.findIn K (.ref C) "__setattr__") (some (some (.builtin "object.__setattr__"))) && (oB (PySem.W.subIn K (.ref C) (.type "BaseException")) (some true) && (decide (PySem.W.typeIn K (.ref C) = some (.type "type")) && PySem.W.keepIn K (.ref C))))
theorem oexB_ok {K : PySem.W.Frag} {C : Addr} (h : oexB C K = true) : OexE K C := by
  obtain ⟨h1, h⟩ := He.ba h
  obtain ⟨h2, h⟩ := He.ba h
  obtain ⟨h3, h⟩ := He.ba h
  obtain ⟨h4, h5⟩ := He.ba h
  exact ⟨clsB_ok h1, He.eqO_ok h2, of_decide_eq_true h3, of_decide_eq_true h4, h5⟩
/-- all that is asked of the own errors, EarlierError their base -/
def xsB (xs : List Str) (K : PySem.W.Frag) : Bool := (xs.all fun c => (("EarlierError" : Str) :: xs).all fun cn => oB (PySem.W.exmOne K (.ref (He.ga K c)) (.ref (He.ga K cn))) (some (catches c cn))) && ((xs.all fun c => L2.xfB K (He.ga K c)) && (((("EarlierError" : Str) :: xs).all fun cn => (He.Fa.glo cn).ok K) &&
  ((xs.all fun c => oexB (He.ga K c) K && (He.Fa.noat c "given").ok K) && exB (He.ga K "EarlierError") K)))
theorem xsB_ok {K : PySem.W.Frag} {h : Heap} {mg : Str → Option Value} {xs : List Str} (X : K.In h) (Gm : h.Ns mainGlobals mg) (c : xsB xs K = true) : XsOk K mg (He.ga K) xs := by
  obtain ⟨h1, c⟩ := He.ba c
  obtain ⟨h2, c⟩ := He.ba c
  obtain ⟨h3, _⟩ := He.ba c
  exact ⟨fun c m cn m' => of_decide_eq_true (List.all_eq_true.mp (List.all_eq_true.mp h1 c m) cn m'), fun c m => L2.xfB_ok (List.all_eq_true.mp h2 c m), fun cn m => He.glo_ok X Gm (List.all_eq_true.mp h3 cn m)⟩
theorem xsB_oe {K : PySem.W.Frag} {xs : List Str} (c : xsB xs K = true) : ∀ c ∈ xs, OexE K (He.ga K c) := fun e m => oexB_ok (He.ba (List.all_eq_true.mp (He.ba (He.ba (He.ba (He.ba c).2).2).2).1 e m)).1
theorem xsB_no {K : PySem.W.Frag} {xs : List Str} (c : xsB xs K = true) : ∀ c ∈ xs, PySem.W.findIn K (.ref (He.ga K c)) "given" = some none := fun e m => He.noat_ok (He.ba (List.all_eq_true.mp (He.ba (He.ba (He.ba (He.ba c).2).2).2).1 e m)).2
theorem xsB_ex {K : PySem.W.Frag} {xs : List Str} (c : xsB xs K = true) : ExB K (He.ga K "EarlierError") := exB_ok (He.ba (He.ba (He.ba (He.ba c).2).2).2).2
/-- .. and of the __init__ of one -/
def xiB (c : Str) (K : PySem.W.Frag) : Bool := He.eqO (PySem.W.findIn K (.ref (He.ga K c)) "__init__") (some (some (.ref (He.ma K (He.ga K c) "__init__")))) && decide (PySem.W.typeIn K (.ref (He.ma K (He.ga K c) "__init__")) = some (.type "function"))

/-! ### the law's end -/
theorem walkE {l : PySem.W.OpenLaw} {n k : Nat} {q : Program} {loose : List Str} {XP : (Str → Option Value) → Heap → Prop} {YP : World → Heap → Prop} {d : DefRec} {x : Str} {dl : M E}
    (hn : l.most = some n) (hn2 : n ≤ sizeLine) (hdf : d.params.defaults = []) (hr : Room k callerA)
    (F : ∀ (w : World) (mg : Str → Option Value) (fa : Addr) (h : Heap), YP w h → h.Ns mainGlobals mg → mg d.name = some (.ref fa) →
      ∃ (K : PySem.W.Frag) (fd : FuncData) (G : Str → Addr), K.In h ∧ (∀ (s : Shared) (u : Value), BindsTo s fd ⟨[u], []⟩ [(x, u)]) ∧ ∀ base : Heap, K.In base → base.Ns mainGlobals mg → Fn l.prog w K mg base k fa fd [x] (spD ⟨K, G⟩ 1 dl))
    (hl : LawTrue dl n) : PySem.W.WalkO q loose XP YP l.row.toRowW d [] (fun f vs => PySem.call f vs) := by
  refine Att.attach_callB hn hdf fun w s₀ s₁ mg mb fa o pm cd doc a vs ns Gd Y ho hd hcd hmg hobj hints hlen hbits hg => ?_
  obtain ⟨K, fd, G, KX, hb, hF⟩ := F w mg fa _ Y Gd.T.g hmg
  have hl' := hl ns hlen hbits
  have rv := vals_ints hints
  have lenV := hints.length
  have hlz := Nat.le_trans hlen hn2
  cases hk : K.lookup a with
  | some o =>
    have e := KX a o hk
    rw [hobj] at e
    cases e
    exact law_from (H := fun _ => none) KX Gd.T.g Gd.T.b Gd.T.builtins Gd.T.nolimit hg hobj hr hF hb (sp_law (ns := ns) hl' (.inr ⟨_, vs.toArray, _, hk, rfl, rfl, rfl, by rw [List.size_toArray, lenV]; exact hlz, by simpa using rv⟩)) (fun _ => .inl rfl) (fun b u z => by cases z) (fun b z => absurd rfl z) fun z => absurd rfl z
  | none =>
    refine law_from (H := fun b => if b = a then some (.frz { cls := .type "list", data := .seq vs.toArray } (.lst (ns.map V.int))) else none) KX Gd.T.g Gd.T.b Gd.T.builtins Gd.T.nolimit hg hobj hr hF hb (sp_law (ns := ns) hl' (.inl (.inr ⟨{ cls := .type "list", data := .seq vs.toArray }, if_pos rfl⟩))) (fun b => ?_) (fun b u z => ?_) (fun b z => ?_) fun _ => hk
    · by_cases hb : b = a
      · exact .inr ⟨_, _, if_pos hb⟩
      · exact .inl (if_neg hb)
    · by_cases hb : b = a
      · have z' := (if_pos hb).symm.trans z
        cases z'
        subst hb
        exact ⟨hobj, by rw [List.length_map]; exact hlz, vs, _, rv, hobj⟩
      · have z' := (if_neg hb).symm.trans z
        cases z'
    · by_cases hb : b = a
      · exact hb
      · exact absurd (if_neg hb) z
/-- law's own meaning, at its own object -/
theorem at_law {P : Program} {w : World} {K : PySem.W.Frag} {mg : Str → Option Value} {base : Heap} {G : Str → Addr} {k : Nat} {x q y : Str} {st : Stmt} {f fa : Addr} {fd : FuncData} {d : M E} (C : Cal P w K mg base G k x [y] d) (F : L2.Fun K x q st f fd) (hm : mg x = some (.ref f)) (hf : mg x = some (.ref fa)) : Fn P w K mg base k fa fd [y] (spD ⟨K, G⟩ 1 d) := by
  obtain ⟨f', fd', Ff, hm', _, _, hfd⟩ := C.ex
  rw [hm] at hm' hf
  cases hm'
  cases hf
  have := fd_eq F hfd
  subst this
  exact Ff
end DH
set_option Elab.async false
set_option linter.all false
set_option maxRecDepth 100000
set_option maxHeartbeats 4000000
/-! DH2: module dicts with texts; what isinstance asks of errors. -/
namespace DH
open PySem PySem.Spec PyProof.Rows L2 DL
section
variable {K : PySem.W.Frag} {h : Heap} {mg : Str → Option Value} {w : World}
def kmB (x : Str) (kvs : List (Str × Str)) (K : PySem.W.Frag) : Bool := He.valsB K (He.ga K x) (kvs.map fun q => (q.1, He.Dv.str q.2))
theorem lookup_in {α β : Type} [BEq α] [LawfulBEq α] {z : α} {y : β} : ∀ {l : List (α × β)}, l.lookup z = some y → (z, y) ∈ l
  | [], h => by cases h
  | (a, b) :: r, h => by
    rw [List.lookup_cons] at h
    cases e : (z == a) with
    | true =>
      rw [e] at h
      cases h
      rw [eq_of_beq e]
      exact List.mem_cons_self
    | false =>
      rw [e] at h
      exact List.mem_cons_of_mem _ (lookup_in h)
theorem keys_at {P : Params} : ∀ {es : List DictEntry} {ks : List Str}, es.map He.keyOf = He.keysIn P ks → es.length = ks.length ∧ ∀ (i : Nat) (k : Str), ks[i]? = some k → ∃ (en : DictEntry) (t : Tok), es[i]? = some en ∧ en.key = Value.str k t
  | [], [], _ => ⟨rfl, fun i k h => by simp at h⟩
  | [], _ :: _, h => by cases h
  | _ :: _, [], h => by cases h
  | e :: es, k :: ks, h => by
    have h1 : He.keyOf e :: es.map He.keyOf = some (k, PyData.keyHash P k) :: He.keysIn P ks := h
    injection h1 with h2 h3
    obtain ⟨l1, l2⟩ := keys_at h3
    refine ⟨by simp [l1], fun i k' hi => ?_⟩
    cases i with
    | zero =>
      have hi : k = k' := by simpa using hi
      subst hi
      unfold He.keyOf at h2
      split at h2
      · rename_i x t hx
        have q := (Prod.mk.inj (Option.some.inj h2)).1
        exact ⟨e, t, rfl, by rw [hx, q]⟩
      · cases h2
    | succ i => exact l2 i k' (by simpa using hi)
theorem km_of (X : K.In h) (Gm : h.Ns mainGlobals mg) {x : Str} {kvs : List (Str × Str)} (g : (He.Fa.glo x).ok K = true) (c : He.dicW K (He.ga K x) = some (He.keysIn w.params (kvs.map (·.1)))) (v : kmB x kvs K = true) : KmAt K w mg x kvs := by
  obtain ⟨a, es, n, h1, D, h3⟩ := (kd_of X Gm g c).ex
  have ea : a = He.ga K x := by
    have q := h1.symm.trans (He.glo_ok X Gm g)
    cases q
    rfl
  subst ea
  have e : es.toList.map He.keyOf = He.keysIn w.params (kvs.map (·.1)) := by
    have c1 := c
    unfold He.dicW at c1
    rw [D.at_] at c1
    have c2 : (match decide (("dict" : String) = "dict") && ((#[] : Array (Option Value)).isEmpty && !(He.ga K x == sysModules)) with
      | true => some (es.toList.map He.keyOf)
      | false => none) = some (He.keysIn w.params (kvs.map (·.1))) := c1
    rw [D.low] at c2
    exact Option.some.inj c2
  obtain ⟨l1, l2⟩ := keys_at e
  refine ⟨_, es, n, h1, D, by simpa using l1, fun i k y hi => ?_, fun z y hz => ?_, h3⟩
  · obtain ⟨en, t, e1, e2⟩ := l2 i k (by rw [List.getElem?_map, hi]; rfl)
    exact ⟨en, t, by simpa using e1, e2⟩
  · obtain ⟨u, e1, e2⟩ := He.valsB_ok v (q := (z, He.Dv.str y)) (List.mem_map.mpr ⟨(z, y), lookup_in hz, rfl⟩)
    exact ⟨u, e1, e2⟩
end
def excB (D : Addr) (K : PySem.W.Frag) : Bool := He.eqO (PySem.W.findIn K (.ref D) "__getattribute__") (some (some (.builtin "BaseException.__getattribute__"))) && (He.eqO (PySem.W.findIn K (.ref D) "__getattr__") (some none) && (oB (PySem.W.subIn K (.ref D) (.type "BaseException")) (some true) && (PySem.W.hasDictIn K D &&
  (He.eqO (PySem.W.findIn K (.ref D) "__class__") (some (some (.builtin "object.__class__"))) && (He.eqO (PySem.W.specialIn K (.builtin "object.__class__") "__get__") (some (some (.builtin "getset_descriptor.__get__"))) && (oB (PySem.W.takesIn K (.builtin "object.__class__")) (some true) && oB (PySem.W.mroIn K D (.type "object")) (some true)))))))
theorem excB_ok {K : PySem.W.Frag} {D : Addr} (h : excB D K = true) : ExcC K D := by
  obtain ⟨h1, h⟩ := He.ba h
  obtain ⟨h2, h⟩ := He.ba h
  obtain ⟨h3, h⟩ := He.ba h
  obtain ⟨h4, h⟩ := He.ba h
  obtain ⟨h5, h⟩ := He.ba h
  obtain ⟨h6, h⟩ := He.ba h
  obtain ⟨h7, h8⟩ := He.ba h
  exact ⟨He.eqO_ok h1, He.eqO_ok h2, of_decide_eq_true h3, h4, He.eqO_ok h5, He.eqO_ok h6, of_decide_eq_true h7, of_decide_eq_true h8⟩
def isxB (xs : List Str) (K : PySem.W.Frag) : Bool := (xs.all fun c => excB (He.ga K c) K) && xs.all fun c => oB (PySem.W.kitOne K (.ref (He.ga K c)) (.ref (He.ga K "EarlierError"))) (some true)
theorem isxB_ok {K : PySem.W.Frag} {xs : List Str} (h : isxB xs K = true) : XsIs K (He.ga K) xs := by
  obtain ⟨h1, h2⟩ := He.ba h
  exact ⟨fun c m => excB_ok (List.all_eq_true.mp h1 c m), fun c m => of_decide_eq_true (List.all_eq_true.mp h2 c m)⟩
end DH
set_option Elab.async false
set_option linter.all false
set_option maxRecDepth 100000
set_option maxHeartbeats 0
/-! printed by genh.py -/
namespace Lw
open PySem PySem.Spec PyProof.Rows L2 DL
abbrev R : PySem.W.OpenRow := PySem.W.OpenLaw.row PySem.Challenge.rw_anyearlier_k02_cells_of_rows
abbrev qv : Program := PySem.W.view R.prog [46]
def na0 : List PySem.Str := ["__name__", "EarlierError", "InvalidColumns", "InvalidColumn", "InvalidRow", "InvalidCell", "LETTERS", "MOST_LETTERS", "NO_NAMES", "is_whole", "is_listed", "is_tuple_of", "is_word", "is_name", "are_unlike", "are_unlike_names", "MOST_COLUMNS", "TURNED", "Form", "is_column", "is_sign", "sign_of", "cell_of", "cells_of", "check_row", "cell", "all_cells", "turned", "_law_cell", "_law_box"]
def na1 : List PySem.Str := ["_law_take", "_law_sign", "_law_all", "_law_back", "_law_whole", "_law_near", "_law_no_row", "_law_very", "_law_cell_of", "_law_turned", "_law_rows_right", "_law_turns_right", "_law_all_right"]
def names : List PySem.Str := na0 ++ na1
abbrev sx_InvalidColumns : Stmt := inClass (top 2) 0
abbrev sx_InvalidRow : Stmt := inClass (top 4) 0
abbrev sx_InvalidCell : Stmt := inClass (top 5) 0
def fa : List He.Fa := [.free "abs", .free "all", .free "bool", .free "dict", .free "enumerate", .free "int", .free "isinstance", .free "len", .free "list", .free "max", .free "min", .free "range", .free "repr", .free "set", .free "str", .free "sum", .free "tuple", .free "zip", .str "LETTERS" ("abcdefghijklmnopqrstuvwxyz" : Str), .int "MOST_COLUMNS" 4, .int "MOST_LETTERS" 8, .glo "NO_NAMES", .glo "TURNED", .glo "are_unlike", .glo "is_listed", .glo "is_word", .glo "is_name", .glo "are_unlike_names", .mkr "Form", .glo "Form", .glo "_law_all", .glo "cells_of", .glo "all_cells", .glo "_law_all_right", .glo "_law_box", .glo "_law_cell", .glo "_law_back", .glo "sign_of", .glo "cell_of", .glo "is_tuple_of", .glo "is_whole", .meth "Form" "is_row", .glo "check_row", .glo "cell", .glo "_law_cell_of", .glo "_law_take", .glo "_law_near", .glo "_law_no_row", .glo "_law_sign", .glo "is_sign", .glo "turned", .glo "_law_turned", .glo "_law_very", .glo "_law_whole", .glo "_law_rows_right", .glo "_law_turns_right", .glo "law", .glo "InvalidColumns", .glo "InvalidRow", .glo "InvalidCell", .glo "EarlierError"]
def fn : List He.DefD := [DH.dOf ("are_unlike", none) "are_unlike" "are_unlike" st_are_unlike, DH.dOf ("is_listed", none) "is_listed" "is_listed" st_is_listed, DH.dOf ("is_word", none) "is_word" "is_word" st_is_word, DH.dOf ("is_name", none) "is_name" "is_name" st_is_name, DH.dOf ("are_unlike_names", none) "are_unlike_names" "are_unlike_names" st_are_unlike_names, DH.dOf ("Form", some "__init__") "__init__" "Form.__init__" st_Form___init__, DH.dOf ("_law_all", none) "_law_all" "_law_all" st__law_all, DH.dOf ("cells_of", none) "cells_of" "cells_of" st_cells_of, DH.dOf ("all_cells", none) "all_cells" "all_cells" st_all_cells, DH.dOf ("_law_all_right", none) "_law_all_right" "_law_all_right" st__law_all_right, DH.dOf ("_law_box", none) "_law_box" "_law_box" st__law_box, DH.dOf ("_law_cell", none) "_law_cell" "_law_cell" st__law_cell, DH.dOf ("_law_back", none) "_law_back" "_law_back" st__law_back, DH.dOf ("sign_of", none) "sign_of" "sign_of" st_sign_of, DH.dOf ("cell_of", none) "cell_of" "cell_of" st_cell_of, DH.dOf ("is_tuple_of", none) "is_tuple_of" "is_tuple_of" st_is_tuple_of, DH.dOf ("is_whole", none) "is_whole" "is_whole" st_is_whole, DH.dOf ("Form", some "is_row") "is_row" "Form.is_row" st_Form_is_row, DH.dOf ("check_row", none) "check_row" "check_row" st_check_row, DH.dOf ("cell", none) "cell" "cell" st_cell, DH.dOf ("_law_cell_of", none) "_law_cell_of" "_law_cell_of" st__law_cell_of, DH.dOf ("_law_take", none) "_law_take" "_law_take" st__law_take, DH.dOf ("_law_near", none) "_law_near" "_law_near" st__law_near, DH.dOf ("_law_no_row", none) "_law_no_row" "_law_no_row" st__law_no_row, DH.dOf ("_law_sign", none) "_law_sign" "_law_sign" st__law_sign, DH.dOf ("is_sign", none) "is_sign" "is_sign" st_is_sign, DH.dOf ("turned", none) "turned" "turned" st_turned, DH.dOf ("_law_turned", none) "_law_turned" "_law_turned" st__law_turned, DH.dOf ("_law_very", none) "_law_very" "_law_very" st__law_very, DH.dOf ("_law_whole", none) "_law_whole" "_law_whole" st__law_whole, DH.dOf ("_law_rows_right", none) "_law_rows_right" "_law_rows_right" st__law_rows_right, DH.dOf ("_law_turns_right", none) "_law_turns_right" "_law_turns_right" st__law_turns_right, DH.dOf ("law", none) "law" "law" st_law, DH.dOf ("InvalidColumns", some "__init__") "__init__" "InvalidColumns.__init__" sx_InvalidColumns, DH.dOf ("InvalidRow", some "__init__") "__init__" "InvalidRow.__init__" sx_InvalidRow, DH.dOf ("InvalidCell", some "__init__") "__init__" "InvalidCell.__init__" sx_InvalidCell]
def ts : List He.Tab := [(fun K => He.ga K "TURNED", km_TURNED.map (·.1))]
def exs (K : PySem.W.Frag) : List Bool := [DH.ownB cls ["bool", "dict", "int", "list", "str", "tuple"] K, DH.xsB xcls K, DH.ktB "NO_NAMES" ["any", "alike", "unlike", "less", "most", "more", "least", "all", "some", "not", "none", "if"] K, DH.kmB "TURNED" km_TURNED K, DH.isxB xcls K, DH.attB cls "columns" K, DH.attB cls "places" K, DH.xiB "InvalidColumns" K, DH.xiB "InvalidRow" K, DH.xiB "InvalidCell" K]
abbrev ex (K : PySem.W.Frag) : Bool := (exs K).all id
abbrev hk : PySem.W.Hook := DH.hookY 6 fa fn ts ex
def ob (s : PySem.W.SharedT) : DH.AlY := DH.obsYG 6 fa fn ts ex (HandSHeadRun.getT s)
theorem ob_eq (s : PySem.W.SharedT) : ob s = hk.obs s.abs := DH.obsYG_eq (HandSHeadRun.getT_eq s)
theorem run (w : World) : HandSHeadRun.RunEq R qv hk ob 6000 names w := by
  refine PySem.W.byRow2 "special-get-raises" (P := fun w => HandSHeadRun.RunEq R qv hk ob 6000 names w) (fun w => ?_) (fun w => ?_) w
  all_goals
    intro os
    kernel_rfl
section
variable {P : Program} {w : World} {K : PySem.W.Frag} {mg : Str → Option Value} {base : Heap} {h : Heap} {f fa0 : Addr} {fd : FuncData}
theorem txt (X : K.In h) (Gm : h.Ns mainGlobals mg) (c : DH.Says fa fn ts ex w K) : Txt w K mg (He.ga K) :=
  have OC := DH.ownB_ok (DH.bAt c.more 0)
  { b_abs := He.free_ok X Gm (c.fact 0)
    b_all := He.free_ok X Gm (c.fact 1)
    b_bool := He.free_ok X Gm (c.fact 2)
    b_dict := He.free_ok X Gm (c.fact 3)
    b_enumerate := He.free_ok X Gm (c.fact 4)
    b_int := He.free_ok X Gm (c.fact 5)
    b_isinstance := He.free_ok X Gm (c.fact 6)
    b_len := He.free_ok X Gm (c.fact 7)
    b_list := He.free_ok X Gm (c.fact 8)
    b_max := He.free_ok X Gm (c.fact 9)
    b_min := He.free_ok X Gm (c.fact 10)
    b_range := He.free_ok X Gm (c.fact 11)
    b_repr := He.free_ok X Gm (c.fact 12)
    b_set := He.free_ok X Gm (c.fact 13)
    b_str := He.free_ok X Gm (c.fact 14)
    b_sum := He.free_ok X Gm (c.fact 15)
    b_tuple := He.free_ok X Gm (c.fact 16)
    b_zip := He.free_ok X Gm (c.fact 17)
    g_LETTERS := DH.gs_of X Gm (c.fact 18)
    g_MOST_COLUMNS := DH.gi_of X Gm (c.fact 19)
    g_MOST_LETTERS := DH.gi_of X Gm (c.fact 20)
    g_NO_NAMES := DH.kt_of X Gm (c.fact 21) (DH.bAt c.more 2) rfl
    k_bool := kit_T OC (by decide)
    k_dict := kit_T OC (by decide)
    k_int := kit_T OC (by decide)
    k_list := kit_T OC (by decide)
    k_list_tuple := kit_Ts OC (by decide)
    k_str := kit_T OC (by decide)
    k_tuple := kit_T OC (by decide)
    km_TURNED := DH.km_of X Gm (c.fact 22) (c.tab 0) (DH.bAt c.more 3)
    xi := DH.isxB_ok (DH.bAt c.more 4)
    xs := DH.xsB_ok X Gm (DH.bAt c.more 1)
    n_given := DH.xsB_no (DH.bAt c.more 1)
    a_columns := DH.att_of (DH.ownB_cls (DH.bAt c.more 0)) (DH.bAt c.more 5)
    a_places := DH.att_of (DH.ownB_cls (DH.bAt c.more 0)) (DH.bAt c.more 6) }
theorem sc_InvalidColumns : FnScope ["self", "given"] ["self", "given"] (defScope sx_InvalidColumns) := ⟨rfl, rfl, rfl, by decide +kernel, rfl, by decide +kernel, by decide +kernel⟩
theorem okx_InvalidColumns (X : K.In h) (Gm : h.Ns mainGlobals mg) (c : DH.Says fa fn ts ex w K) (F : L2.Fun K "__init__" "InvalidColumns.__init__" sx_InvalidColumns (He.ma K (He.ga K "InvalidColumns") "__init__") fd) (hb : Binds K fd ["self", "given"] []) (hm : mg "InvalidColumns" = some (.ref (He.ga K "InvalidColumns"))) : CalX P w K mg base (He.ga K) "InvalidColumns" "given" := by
  have hx := DH.xsB_ex (DH.bAt c.more 1)
  have hi := He.ba (DH.bAt c.more 7)
  refine CalX.of (DH.xsB_oe (DH.bAt c.more 1) "InvalidColumns" (by decide)) (DH.xsB_no (DH.bAt c.more 1) "InvalidColumns" (by decide)) hm (He.eqO_ok hi.1) (of_decide_eq_true hi.2) ?_ hb
  refine F.ok sc_InvalidColumns (fun vs H Q E h => spXi_len h) (fun cdv A outer s H vs Q E hr h => ?_)
  obtain ⟨a, y, rfl, oe, no, ha, q⟩ := h
  refine ⟨_, pss_cons (ps_expr (pe_einit hx (He.glo_ok X Gm (c.fact 60)) (pa_cons (pv 0) (pa_cons pe_str pa_nil)))) (pss_one (ps_os1 (pv 0) (pv 1))), ?_⟩
  exact ⟨_, rfl, a, _, _, rfl, by decide, oe, ha, _, rfl, _, rfl, a, _, rfl, oe, no, ha, q⟩
theorem sc_InvalidRow : FnScope ["self", "given"] ["self", "given"] (defScope sx_InvalidRow) := ⟨rfl, rfl, rfl, by decide +kernel, rfl, by decide +kernel, by decide +kernel⟩
theorem okx_InvalidRow (X : K.In h) (Gm : h.Ns mainGlobals mg) (c : DH.Says fa fn ts ex w K) (F : L2.Fun K "__init__" "InvalidRow.__init__" sx_InvalidRow (He.ma K (He.ga K "InvalidRow") "__init__") fd) (hb : Binds K fd ["self", "given"] []) (hm : mg "InvalidRow" = some (.ref (He.ga K "InvalidRow"))) : CalX P w K mg base (He.ga K) "InvalidRow" "given" := by
  have hx := DH.xsB_ex (DH.bAt c.more 1)
  have hi := He.ba (DH.bAt c.more 8)
  refine CalX.of (DH.xsB_oe (DH.bAt c.more 1) "InvalidRow" (by decide)) (DH.xsB_no (DH.bAt c.more 1) "InvalidRow" (by decide)) hm (He.eqO_ok hi.1) (of_decide_eq_true hi.2) ?_ hb
  refine F.ok sc_InvalidRow (fun vs H Q E h => spXi_len h) (fun cdv A outer s H vs Q E hr h => ?_)
  obtain ⟨a, y, rfl, oe, no, ha, q⟩ := h
  refine ⟨_, pss_cons (ps_expr (pe_einit hx (He.glo_ok X Gm (c.fact 60)) (pa_cons (pv 0) (pa_cons pe_str pa_nil)))) (pss_one (ps_os1 (pv 0) (pv 1))), ?_⟩
  exact ⟨_, rfl, a, _, _, rfl, by decide, oe, ha, _, rfl, _, rfl, a, _, rfl, oe, no, ha, q⟩
theorem sc_InvalidCell : FnScope ["self", "given"] ["self", "given"] (defScope sx_InvalidCell) := ⟨rfl, rfl, rfl, by decide +kernel, rfl, by decide +kernel, by decide +kernel⟩
theorem okx_InvalidCell (X : K.In h) (Gm : h.Ns mainGlobals mg) (c : DH.Says fa fn ts ex w K) (F : L2.Fun K "__init__" "InvalidCell.__init__" sx_InvalidCell (He.ma K (He.ga K "InvalidCell") "__init__") fd) (hb : Binds K fd ["self", "given"] []) (hm : mg "InvalidCell" = some (.ref (He.ga K "InvalidCell"))) : CalX P w K mg base (He.ga K) "InvalidCell" "given" := by
  have hx := DH.xsB_ex (DH.bAt c.more 1)
  have hi := He.ba (DH.bAt c.more 9)
  refine CalX.of (DH.xsB_oe (DH.bAt c.more 1) "InvalidCell" (by decide)) (DH.xsB_no (DH.bAt c.more 1) "InvalidCell" (by decide)) hm (He.eqO_ok hi.1) (of_decide_eq_true hi.2) ?_ hb
  refine F.ok sc_InvalidCell (fun vs H Q E h => spXi_len h) (fun cdv A outer s H vs Q E hr h => ?_)
  obtain ⟨a, y, rfl, oe, no, ha, q⟩ := h
  refine ⟨_, pss_cons (ps_expr (pe_einit hx (He.glo_ok X Gm (c.fact 60)) (pa_cons (pv 0) (pa_cons pe_str pa_nil)))) (pss_one (ps_os1 (pv 0) (pv 1))), ?_⟩
  exact ⟨_, rfl, a, _, _, rfl, by decide, oe, ha, _, rfl, _, rfl, a, _, rfl, oe, no, ha, q⟩
theorem head (X : K.In h) (Gm : h.Ns mainGlobals mg) (hfa : mg "law" = some (.ref fa0)) (c : DH.Says fa fn ts ex w K) :
    ∃ (fd : FuncData) (G : Str → Addr), (∀ (s : Shared) (u : Value), BindsTo s fd ⟨[u], []⟩ [("script", u)]) ∧ ∀ base : Heap, K.In base → base.Ns mainGlobals mg → Fn P w K mg base 7 fa0 fd ["script"] (spD ⟨K, G⟩ 1 d_law) := by
  have TT := txt X Gm c
  obtain ⟨fd0, F0⟩ := c.fn 0 (a := ("are_unlike", none)) (x := "are_unlike") (q := "are_unlike") (st := st_are_unlike)
  have b0 := F0.binds (ps := ["items"]) fun _ _ _ _ _ _ us hl => match us, hl with | [_], _ => rfl
  have m0 := He.glo_ok X Gm (c.fact 23)
  obtain ⟨fd1, F1⟩ := c.fn 1 (a := ("is_listed", none)) (x := "is_listed") (q := "is_listed") (st := st_is_listed)
  have b1 := F1.binds (ps := ["value"]) fun _ _ _ _ _ _ us hl => match us, hl with | [_], _ => rfl
  have m1 := He.glo_ok X Gm (c.fact 24)
  obtain ⟨fd2, F2⟩ := c.fn 2 (a := ("is_word", none)) (x := "is_word") (q := "is_word") (st := st_is_word)
  have b2 := F2.binds (ps := ["value"]) fun _ _ _ _ _ _ us hl => match us, hl with | [_], _ => rfl
  have m2 := He.glo_ok X Gm (c.fact 25)
  obtain ⟨fd3, F3⟩ := c.fn 3 (a := ("is_name", none)) (x := "is_name") (q := "is_name") (st := st_is_name)
  have b3 := F3.binds (ps := ["value"]) fun _ _ _ _ _ _ us hl => match us, hl with | [_], _ => rfl
  have m3 := He.glo_ok X Gm (c.fact 26)
  obtain ⟨fd4, F4⟩ := c.fn 4 (a := ("are_unlike_names", none)) (x := "are_unlike_names") (q := "are_unlike_names") (st := st_are_unlike_names)
  have b4 := F4.binds (ps := ["value", "least", "most"]) fun _ _ _ _ _ _ us hl => match us, hl with | [_, _, _], _ => rfl
  have m4 := He.glo_ok X Gm (c.fact 27)
  obtain ⟨fd5, F5⟩ := c.fn 5 (a := ("Form", some "__init__")) (x := "__init__") (q := "Form.__init__") (st := st_Form___init__)
  have b5 := F5.binds (ps := ["self", "columns"]) fun _ _ _ _ _ _ us hl => match us, hl with | [_, _], _ => rfl
  have m5 := He.mkr_ok (c.fact 28)
  have k5 := He.glo_ok X Gm (c.fact 29)
  obtain ⟨fd6, F6⟩ := c.fn 6 (a := ("_law_all", none)) (x := "_law_all") (q := "_law_all") (st := st__law_all)
  have b6 := F6.binds (ps := ["many"]) fun _ _ _ _ _ _ us hl => match us, hl with | [_], _ => rfl
  have m6 := He.glo_ok X Gm (c.fact 30)
  obtain ⟨fd7, F7⟩ := c.fn 7 (a := ("cells_of", none)) (x := "cells_of") (q := "cells_of") (st := st_cells_of)
  have b7 := F7.binds (ps := ["many"]) fun _ _ _ _ _ _ us hl => match us, hl with | [_], _ => rfl
  have m7 := He.glo_ok X Gm (c.fact 31)
  obtain ⟨fd8, F8⟩ := c.fn 8 (a := ("all_cells", none)) (x := "all_cells") (q := "all_cells") (st := st_all_cells)
  have b8 := F8.binds (ps := ["form"]) fun _ _ _ _ _ _ us hl => match us, hl with | [_], _ => rfl
  have m8 := He.glo_ok X Gm (c.fact 32)
  obtain ⟨fd9, F9⟩ := c.fn 9 (a := ("_law_all_right", none)) (x := "_law_all_right") (q := "_law_all_right") (st := st__law_all_right)
  have b9 := F9.binds (ps := ["form", "many", "turn", "held"]) fun _ _ _ _ _ _ us hl => match us, hl with | [_, _, _, _], _ => rfl
  have m9 := He.glo_ok X Gm (c.fact 33)
  obtain ⟨fd10, F10⟩ := c.fn 10 (a := ("_law_box", none)) (x := "_law_box") (q := "_law_box") (st := st__law_box)
  have b10 := F10.binds (ps := ["great"]) fun _ _ _ _ _ _ us hl => match us, hl with | [_], _ => rfl
  have m10 := He.glo_ok X Gm (c.fact 34)
  obtain ⟨fd11, F11⟩ := c.fn 11 (a := ("_law_cell", none)) (x := "_law_cell") (q := "_law_cell") (st := st__law_cell)
  have b11 := F11.binds (ps := ["script", "k"]) fun _ _ _ _ _ _ us hl => match us, hl with | [_, _], _ => rfl
  have m11 := He.glo_ok X Gm (c.fact 35)
  obtain ⟨fd12, F12⟩ := c.fn 12 (a := ("_law_back", none)) (x := "_law_back") (q := "_law_back") (st := st__law_back)
  have b12 := F12.binds (ps := ["one"]) fun _ _ _ _ _ _ us hl => match us, hl with | [_], _ => rfl
  have m12 := He.glo_ok X Gm (c.fact 36)
  obtain ⟨fd13, F13⟩ := c.fn 13 (a := ("sign_of", none)) (x := "sign_of") (q := "sign_of") (st := st_sign_of)
  have b13 := F13.binds (ps := ["later", "earlier"]) fun _ _ _ _ _ _ us hl => match us, hl with | [_, _], _ => rfl
  have m13 := He.glo_ok X Gm (c.fact 37)
  obtain ⟨fd14, F14⟩ := c.fn 14 (a := ("cell_of", none)) (x := "cell_of") (q := "cell_of") (st := st_cell_of)
  have b14 := F14.binds (ps := ["later", "earlier"]) fun _ _ _ _ _ _ us hl => match us, hl with | [_, _], _ => rfl
  have m14 := He.glo_ok X Gm (c.fact 38)
  obtain ⟨fd15, F15⟩ := c.fn 15 (a := ("is_tuple_of", none)) (x := "is_tuple_of") (q := "is_tuple_of") (st := st_is_tuple_of)
  have b15 := F15.binds (ps := ["value", "many"]) fun _ _ _ _ _ _ us hl => match us, hl with | [_, _], _ => rfl
  have m15 := He.glo_ok X Gm (c.fact 39)
  obtain ⟨fd16, F16⟩ := c.fn 16 (a := ("is_whole", none)) (x := "is_whole") (q := "is_whole") (st := st_is_whole)
  have b16 := F16.binds (ps := ["value"]) fun _ _ _ _ _ _ us hl => match us, hl with | [_], _ => rfl
  have m16 := He.glo_ok X Gm (c.fact 40)
  obtain ⟨fd17, F17⟩ := c.fn 17 (a := ("Form", some "is_row")) (x := "is_row") (q := "Form.is_row") (st := st_Form_is_row)
  have b17 := F17.binds (ps := ["self", "value"]) fun _ _ _ _ _ _ us hl => match us, hl with | [_, _], _ => rfl
  have m17 := He.meth_ok (c.fact 41)
  have k17 := DH.ownB_cls (DH.bAt c.more 0) "Form" (by decide)
  obtain ⟨fd18, F18⟩ := c.fn 18 (a := ("check_row", none)) (x := "check_row") (q := "check_row") (st := st_check_row)
  have b18 := F18.binds (ps := ["form", "row"]) fun _ _ _ _ _ _ us hl => match us, hl with | [_, _], _ => rfl
  have m18 := He.glo_ok X Gm (c.fact 42)
  obtain ⟨fd19, F19⟩ := c.fn 19 (a := ("cell", none)) (x := "cell") (q := "cell") (st := st_cell)
  have b19 := F19.binds (ps := ["form", "later", "earlier"]) fun _ _ _ _ _ _ us hl => match us, hl with | [_, _, _], _ => rfl
  have m19 := He.glo_ok X Gm (c.fact 43)
  obtain ⟨fd20, F20⟩ := c.fn 20 (a := ("_law_cell_of", none)) (x := "_law_cell_of") (q := "_law_cell_of") (st := st__law_cell_of)
  have b20 := F20.binds (ps := ["form", "later", "earlier", "turn"]) fun _ _ _ _ _ _ us hl => match us, hl with | [_, _, _, _], _ => rfl
  have m20 := He.glo_ok X Gm (c.fact 44)
  obtain ⟨fd21, F21⟩ := c.fn 21 (a := ("_law_take", none)) (x := "_law_take") (q := "_law_take") (st := st__law_take)
  have b21 := F21.binds (ps := ["box", "many"]) fun _ _ _ _ _ _ us hl => match us, hl with | [_, _], _ => rfl
  have m21 := He.glo_ok X Gm (c.fact 45)
  obtain ⟨fd22, F22⟩ := c.fn 22 (a := ("_law_near", none)) (x := "_law_near") (q := "_law_near") (st := st__law_near)
  have b22 := F22.binds (ps := ["box", "row"]) fun _ _ _ _ _ _ us hl => match us, hl with | [_, _], _ => rfl
  have m22 := He.glo_ok X Gm (c.fact 46)
  obtain ⟨fd23, F23⟩ := c.fn 23 (a := ("_law_no_row", none)) (x := "_law_no_row") (q := "_law_no_row") (st := st__law_no_row)
  have b23 := F23.binds (ps := ["box", "row", "shift"]) fun _ _ _ _ _ _ us hl => match us, hl with | [_, _, _], _ => rfl
  have m23 := He.glo_ok X Gm (c.fact 47)
  obtain ⟨fd24, F24⟩ := c.fn 24 (a := ("_law_sign", none)) (x := "_law_sign") (q := "_law_sign") (st := st__law_sign)
  have b24 := F24.binds (ps := ["later", "earlier"]) fun _ _ _ _ _ _ us hl => match us, hl with | [_, _], _ => rfl
  have m24 := He.glo_ok X Gm (c.fact 48)
  obtain ⟨fd25, F25⟩ := c.fn 25 (a := ("is_sign", none)) (x := "is_sign") (q := "is_sign") (st := st_is_sign)
  have b25 := F25.binds (ps := ["value"]) fun _ _ _ _ _ _ us hl => match us, hl with | [_], _ => rfl
  have m25 := He.glo_ok X Gm (c.fact 49)
  obtain ⟨fd26, F26⟩ := c.fn 26 (a := ("turned", none)) (x := "turned") (q := "turned") (st := st_turned)
  have b26 := F26.binds (ps := ["cell"]) fun _ _ _ _ _ _ us hl => match us, hl with | [_], _ => rfl
  have m26 := He.glo_ok X Gm (c.fact 50)
  obtain ⟨fd27, F27⟩ := c.fn 27 (a := ("_law_turned", none)) (x := "_law_turned") (q := "_law_turned") (st := st__law_turned)
  have b27 := F27.binds (ps := ["value", "turn"]) fun _ _ _ _ _ _ us hl => match us, hl with | [_, _], _ => rfl
  have m27 := He.glo_ok X Gm (c.fact 51)
  obtain ⟨fd28, F28⟩ := c.fn 28 (a := ("_law_very", none)) (x := "_law_very") (q := "_law_very") (st := st__law_very)
  have b28 := F28.binds (ps := ["given", "value"]) fun _ _ _ _ _ _ us hl => match us, hl with | [_, _], _ => rfl
  have m28 := He.glo_ok X Gm (c.fact 52)
  obtain ⟨fd29, F29⟩ := c.fn 29 (a := ("_law_whole", none)) (x := "_law_whole") (q := "_law_whole") (st := st__law_whole)
  have b29 := F29.binds (ps := ["box"]) fun _ _ _ _ _ _ us hl => match us, hl with | [_], _ => rfl
  have m29 := He.glo_ok X Gm (c.fact 53)
  obtain ⟨fd30, F30⟩ := c.fn 30 (a := ("_law_rows_right", none)) (x := "_law_rows_right") (q := "_law_rows_right") (st := st__law_rows_right)
  have b30 := F30.binds (ps := ["box", "form", "many", "turn"]) fun _ _ _ _ _ _ us hl => match us, hl with | [_, _, _, _], _ => rfl
  have m30 := He.glo_ok X Gm (c.fact 54)
  obtain ⟨fd31, F31⟩ := c.fn 31 (a := ("_law_turns_right", none)) (x := "_law_turns_right") (q := "_law_turns_right") (st := st__law_turns_right)
  have b31 := F31.binds (ps := ["box", "many", "turn"]) fun _ _ _ _ _ _ us hl => match us, hl with | [_, _, _], _ => rfl
  have m31 := He.glo_ok X Gm (c.fact 55)
  obtain ⟨fd32, F32⟩ := c.fn 32 (a := ("law", none)) (x := "law") (q := "law") (st := st_law)
  have b32 := F32.binds (ps := ["script"]) fun _ _ _ _ _ _ us hl => match us, hl with | [_], _ => rfl
  have m32 := He.glo_ok X Gm (c.fact 56)
  obtain ⟨fd33, F33⟩ := c.fn 33 (a := ("InvalidColumns", some "__init__")) (x := "__init__") (q := "InvalidColumns.__init__") (st := sx_InvalidColumns)
  have b33 := F33.binds (ps := ["self", "given"]) fun _ _ _ _ _ _ us hl => match us, hl with | [_, _], _ => rfl
  have k33 := He.glo_ok X Gm (c.fact 57)
  obtain ⟨fd34, F34⟩ := c.fn 34 (a := ("InvalidRow", some "__init__")) (x := "__init__") (q := "InvalidRow.__init__") (st := sx_InvalidRow)
  have b34 := F34.binds (ps := ["self", "given"]) fun _ _ _ _ _ _ us hl => match us, hl with | [_, _], _ => rfl
  have k34 := He.glo_ok X Gm (c.fact 58)
  obtain ⟨fd35, F35⟩ := c.fn 35 (a := ("InvalidCell", some "__init__")) (x := "__init__") (q := "InvalidCell.__init__") (st := sx_InvalidCell)
  have b35 := F35.binds (ps := ["self", "given"]) fun _ _ _ _ _ _ us hl => match us, hl with | [_, _], _ => rfl
  have k35 := He.glo_ok X Gm (c.fact 59)
  refine ⟨fd32, He.ga K, fun s u => ?_, fun base _ _ => ?_⟩
  · obtain ⟨oc, od, kV, doc, pm, an, cdv, ct, osl, rfl, _⟩ := F32.ex
    exact .of_eq rfl
  · have X_InvalidColumns : CalX P w K mg base (He.ga K) "InvalidColumns" "given" := okx_InvalidColumns X Gm c F33 b33 k33
    have X_InvalidRow : CalX P w K mg base (He.ga K) "InvalidRow" "given" := okx_InvalidRow X Gm c F34 b34 k34
    have X_InvalidCell : CalX P w K mg base (He.ga K) "InvalidCell" "given" := okx_InvalidCell X Gm c F35 b35 k35
    have C_are_unlike : Cal P w K mg base (He.ga K) 1 "are_unlike" ["items"] d_are_unlike := ok_are_unlike TT F0 m0 b0
    have C_is_listed : Cal P w K mg base (He.ga K) 1 "is_listed" ["value"] d_is_listed := ok_is_listed TT F1 m1 b1
    have C_is_word : Cal P w K mg base (He.ga K) 1 "is_word" ["value"] d_is_word := ok_is_word TT F2 m2 b2
    have C_is_name : Cal P w K mg base (He.ga K) 2 "is_name" ["value"] d_is_name := ok_is_name TT F3 m3 b3 C_is_word
    have C_are_unlike_names : Cal P w K mg base (He.ga K) 3 "are_unlike_names" ["value", "least", "most"] d_are_unlike_names := ok_are_unlike_names TT F4 m4 b4 C_are_unlike C_is_listed C_is_name
    have C_Form___init__ : CalI P w K mg base (He.ga K) 4 "Form" ["self", "columns"] d_Form___init__ := ok_Form___init__ TT F5 m5 k5 b5 C_are_unlike_names X_InvalidColumns
    have C__law_all : Cal P w K mg base (He.ga K) 1 "_law_all" ["many"] d__law_all := ok__law_all TT F6 m6 b6
    have C_cells_of : Cal P w K mg base (He.ga K) 1 "cells_of" ["many"] d_cells_of := ok_cells_of TT F7 m7 b7
    have C_all_cells : Cal P w K mg base (He.ga K) 2 "all_cells" ["form"] d_all_cells := ok_all_cells TT F8 m8 b8 C_cells_of
    have B_all_cells_0 : KbAt K mg "all_cells" ["form"] ["form"] [0] := KbAt.of F8 m8 fun _ _ _ _ _ _ ws hl => match ws, hl with | [_], _ => rfl
    have C__law_all_right : Cal P w K mg base (He.ga K) 3 "_law_all_right" ["form", "many", "turn", "held"] d__law_all_right := ok__law_all_right TT F9 m9 b9 C__law_all C_all_cells B_all_cells_0
    have C__law_box : Cal P w K mg base (He.ga K) 1 "_law_box" ["great"] d__law_box := ok__law_box TT F10 m10 b10
    have C__law_cell : Cal P w K mg base (He.ga K) 1 "_law_cell" ["script", "k"] d__law_cell := ok__law_cell TT F11 m11 b11
    have C__law_back : Cal P w K mg base (He.ga K) 1 "_law_back" ["one"] d__law_back := ok__law_back TT F12 m12 b12
    have C_sign_of : Cal P w K mg base (He.ga K) 1 "sign_of" ["later", "earlier"] d_sign_of := ok_sign_of TT F13 m13 b13
    have C_cell_of : Cal P w K mg base (He.ga K) 2 "cell_of" ["later", "earlier"] d_cell_of := ok_cell_of TT F14 m14 b14 C_sign_of
    have C_is_tuple_of : Cal P w K mg base (He.ga K) 1 "is_tuple_of" ["value", "many"] d_is_tuple_of := ok_is_tuple_of TT F15 m15 b15
    have C_is_whole : Cal P w K mg base (He.ga K) 1 "is_whole" ["value"] d_is_whole := ok_is_whole TT F16 m16 b16
    have C_Form_is_row : CalM P w K mg base (He.ga K) 2 "Form" "is_row" ["self", "value"] d_Form_is_row := ok_Form_is_row TT F17 m17 k17 b17 C_is_tuple_of C_is_whole
    have C_check_row : Cal P w K mg base (He.ga K) 3 "check_row" ["form", "row"] d_check_row := ok_check_row TT F18 m18 b18 C_Form_is_row X_InvalidRow
    have C_cell : Cal P w K mg base (He.ga K) 4 "cell" ["form", "later", "earlier"] d_cell := ok_cell TT F19 m19 b19 C_cell_of C_check_row
    have B_cell_120 : KbAt K mg "cell" ["form", "later", "earlier"] ["earlier", "form", "later"] [1, 2, 0] := KbAt.of F19 m19 fun _ _ _ _ _ _ ws hl => match ws, hl with | [_, _, _], _ => rfl
    have C__law_cell_of : Cal P w K mg base (He.ga K) 5 "_law_cell_of" ["form", "later", "earlier", "turn"] d__law_cell_of := ok__law_cell_of TT F20 m20 b20 C_cell B_cell_120
    have C__law_take : Cal P w K mg base (He.ga K) 1 "_law_take" ["box", "many"] d__law_take := ok__law_take TT F21 m21 b21
    have C__law_near : Cal P w K mg base (He.ga K) 2 "_law_near" ["box", "row"] d__law_near := ok__law_near TT F22 m22 b22 C__law_take
    have C__law_no_row : Cal P w K mg base (He.ga K) 2 "_law_no_row" ["box", "row", "shift"] d__law_no_row := ok__law_no_row TT F23 m23 b23 C__law_take
    have C__law_sign : Cal P w K mg base (He.ga K) 1 "_law_sign" ["later", "earlier"] d__law_sign := ok__law_sign TT F24 m24 b24
    have C_is_sign : Cal P w K mg base (He.ga K) 1 "is_sign" ["value"] d_is_sign := ok_is_sign TT F25 m25 b25
    have C_turned : Cal P w K mg base (He.ga K) 3 "turned" ["cell"] d_turned := ok_turned TT F26 m26 b26 C_is_sign X_InvalidCell
    have B_turned_0 : KbAt K mg "turned" ["cell"] ["cell"] [0] := KbAt.of F26 m26 fun _ _ _ _ _ _ ws hl => match ws, hl with | [_], _ => rfl
    have C__law_turned : Cal P w K mg base (He.ga K) 4 "_law_turned" ["value", "turn"] d__law_turned := ok__law_turned TT F27 m27 b27 C_turned B_turned_0
    have C__law_very : Cal P w K mg base (He.ga K) 1 "_law_very" ["given", "value"] d__law_very := ok__law_very TT F28 m28 b28
    have C__law_whole : Cal P w K mg base (He.ga K) 2 "_law_whole" ["box"] d__law_whole := ok__law_whole TT F29 m29 b29 C__law_take
    have C__law_rows_right : Cal P w K mg base (He.ga K) 6 "_law_rows_right" ["box", "form", "many", "turn"] d__law_rows_right := ok__law_rows_right TT F30 m30 b30 C__law_back C__law_cell_of C__law_near C__law_no_row C__law_sign C__law_take C__law_turned C__law_very C__law_whole
    have C__law_turns_right : Cal P w K mg base (He.ga K) 5 "_law_turns_right" ["box", "many", "turn"] d__law_turns_right := ok__law_turns_right TT F31 m31 b31 C__law_all C__law_back C__law_take C__law_turned C__law_very
    have C_law : Cal P w K mg base (He.ga K) 7 "law" ["script"] d_law := ok_law TT F32 m32 b32 C_Form___init__ C__law_all_right C__law_box C__law_cell C__law_rows_right C__law_take C__law_turns_right
    exact DH.at_law C_law F32 m32 hfa
end
end Lw
open PySem PySem.W PySem.Calls PyProof.Rows
theorem PySem.Challenge.cw_anyearlier_k02_cells_of_rows_holds : PySem.Challenge.rw_anyearlier_k02_cells_of_rows.Holds := by
  w_on; o_law
  refine HandSHeadRun.head_any (r := OpenLaw.row PySem.Challenge.rw_anyearlier_k02_cells_of_rows) (q := Lw.qv) (H := Lw.hk) (ob := Lw.ob) (M := 6000) (loose := Lw.names) (d := HandSHeadRun.topDef (OpenLaw.row PySem.Challenge.rw_anyearlier_k02_cells_of_rows).prog 46) (kwd := []) Lw.ob_eq
    (by kernel_rfl) (fun s => by kernel_rfl) Lw.run (by kernel_rfl) (by kernel_rfl) (by kernel_rfl) (by rfl) (by first | assumption | decide +kernel) (by decide +kernel) ⟨rfl, rfl, rfl, rfl, rfl, by decide +kernel⟩ ?hw ?hc
  case hw => w_witness2
  case hc =>
    refine DH.walkE (l := PySem.Challenge.rw_anyearlier_k02_cells_of_rows) (n := 63) (k := 7) (x := "script") (dl := Lw.d_law) rfl (by decide) (by kernel_rfl) ⟨rfl, by decide, by decide⟩ ?F Lw.law_true
    intro w mg fa0 h Y G hmg0
    obtain ⟨K, KX, c⟩ := Y
    have hmg : mg ("law" : PySem.Str) = some (.ref fa0) := by
      have e : (HandSHeadRun.topDef (OpenLaw.row PySem.Challenge.rw_anyearlier_k02_cells_of_rows).prog 46).name = ("law" : PySem.Str) := by kernel_rfl
      rw [← e]
      exact hmg0
    obtain ⟨fd, G0, hb, hF⟩ := Lw.head (P := (PySem.Challenge.rw_anyearlier_k02_cells_of_rows).prog) KX G hmg c
    exact ⟨K, fd, G0, KX, hb, hF⟩
