import PyProof.Rows.All
import Wide.All
import OpenK.AllK
import Wide.FinOn
import HandS.ForMost
import HandS.ForExc
import HandS.More
import HandS.Deep
import HandS.TupAny
import HandS.TupMul
import HandS.TupLe
import HandS.IsInst
import HandS.Slots
import HandS.SlotsOwn
import KE.DataEq
import HandS.Wide
import HandS.Conv
import HandS.Walk
import HandS.Zip
import KE.GoesEnum
import HandS.Defaults
import HandS.MakeKwOnly
import HandS.Style
import KE.GoesMore
import PyProof.Draws
import PyProof.EnumMake
import HandS.Sort
import HandS.Strs
import HandS.Star
import HandS.Comp
import KE.KRevSl
import KE.KStateDown
import HandS.Head0
import HandS.Head1
import HandS.Head2
import HandS.HeadEnd
import HandS.HeadHook1
import HandS.HeadHook2
import HandS.HeadHook3
import HandS.HeadHook4
import HandS.HeadWalk
import PySem.Challenge.RW_seeabove_k48_whole_seams
/-! text: Sim1 -/
set_option Elab.async false
set_option linter.all false
set_option maxRecDepth 100000
set_option maxHeartbeats 1000000
namespace Sm
open PySem PySem.Spec PyProof.Rows L2

abbrev LIM : Nat := 100000
theorem lim_le : LIM ≤ sizeLine := by rw [sizeLine_eq]; decide
theorem lim_of {n : Nat} (h : n ≤ LIM) : n ≤ sizeLine := Nat.le_trans h lim_le
theorem lim_lt {n : Nat} (h : n < LIM) : n < sizeLine := Nat.lt_of_lt_of_le h lim_le

/-- plain data of the program, without a heap -/
inductive D where
  | non | bl (b : Bool) | int (i : Int) | str (x : Str)
  | tup (ds : List D) | lst (ds : List D)
  | scr (ds : List D)
  | ins (k : Nat) (fs : List D)
  | dct (ks : List (Key × D))
  | ref (n : Nat)
  | cls (k : Nat)
  | ty (n : String)
/-- what is shared and may change -/
inductive Ob where
  | lst (ds : List D)
  | ins (k : Nat) (fs : List D)
abbrev Sto := List Ob
inductive Res (α : Type) where
  | ok (a : α) (S : Sto)
  | err (k : Nat) (fs : List D) (S : Sto)
  | stuck
def M (α : Type) : Type := Sto → Res α
def rt {α : Type} (a : α) : M α := fun S => .ok a S
def bd {α β : Type} (m : M α) (f : α → M β) : M β := fun S => match m S with
  | .ok a S' => f a S'
  | .err k fs S' => .err k fs S'
  | .stuck => .stuck
def stk {α : Type} : M α := fun _ => .stuck
def thr {α : Type} (k : Nat) (fs : List D) : M α := fun S => .err k fs S
def opt {α : Type} (o : Option α) : M α := fun S => match o with
  | some a => .ok a S
  | none => .stuck
/-- an error inside is no way of ours -/
def noX {α : Type} (m : M α) : M α := fun S => match m S with
  | .ok a S' => .ok a S'
  | _ => .stuck

/-- what the text gives: the fragment, the classes by number -/
structure Cf where
  K : PySem.W.Frag
  cls : Nat → Addr
/-- what is known to stand: the frozen objects, the shared ones (each with its own dict's address) -/
structure Wd where
  fz : Hp
  sh : List (Addr × Addr)

mutual
inductive Rep (c : Cf) (Ψ : Wd) : V → D → Prop
  | non : Rep c Ψ .non .non
  | bl (b : Bool) : Rep c Ψ (.bl b) (.bl b)
  | int (i : Int) : Rep c Ψ (.int i) (.int i)
  | str (x : Str) : Rep c Ψ (.str x) (.str x)
  | tup {a : Addr} {vs : List V} {ds : List D} (h : SqT c.K Ψ.fz a vs) (l : vs.length ≤ LIM) (r : Reps c Ψ vs ds) : Rep c Ψ (.ref a) (.tup ds)
  | lst {a : Addr} {vs : List V} {ds : List D} (h : Ψ.fz a = some (.lst vs)) (l : vs.length ≤ LIM) (r : Reps c Ψ vs ds) : Rep c Ψ (.ref a) (.lst ds)
  | scr {a : Addr} {vs : List V} {ds : List D} (h : SqL c.K Ψ.fz a vs) (l : vs.length ≤ LIM) (r : Reps c Ψ vs ds) : Rep c Ψ (.ref a) (.scr ds)
  | ins {a dx : Addr} {k : Nat} {vs : List V} {fs : List D} (h : SlX.Slt Ψ.fz a (c.cls k) dx (vs.map some)) (r : Reps c Ψ vs fs) : Rep c Ψ (.ref a) (.ins k fs)
  | dct {a : Addr} {kvs : List (Key × V)} {ks : List (Key × D)} (h : Ψ.fz a = some (.dK kvs)) (e : kvs.map (·.1) = ks.map (·.1)) (r : Reps c Ψ (kvs.map (·.2)) (ks.map (·.2))) : Rep c Ψ (.ref a) (.dct ks)
  | obj {n : Nat} {p : Addr × Addr} (h : Ψ.sh[n]? = some p) : Rep c Ψ (.ref p.1) (.ref n)
  | cls (k : Nat) : Rep c Ψ (.ref (c.cls k)) (.cls k)
  | ty (n : String) : Rep c Ψ (.ty n) (.ty n)
inductive Reps (c : Cf) (Ψ : Wd) : List V → List D → Prop
  | nil : Reps c Ψ [] []
  | cons {v : V} {vs : List V} {d : D} {ds : List D} (h : Rep c Ψ v d) (t : Reps c Ψ vs ds) : Reps c Ψ (v :: vs) (d :: ds)
end

/-- Ψ' knows all that Ψ knows -/
structure Le (Ψ Ψ' : Wd) : Prop where
  phi : ∀ a o, Ψ.fz a = some o → Ψ'.fz a = some o
  mu : ∀ (n : Nat) (p : Addr × Addr), Ψ.sh[n]? = some p → Ψ'.sh[n]? = some p
theorem Le.refl (Ψ : Wd) : Le Ψ Ψ := ⟨fun _ _ h => h, fun _ _ h => h⟩
theorem Le.trans {A B C : Wd} (x : Le A B) (y : Le B C) : Le A C := ⟨fun a o h => y.phi a o (x.phi a o h), fun n p h => y.mu n p (x.mu n p h)⟩
theorem Le.rd {Ψ Ψ' : Wd} (x : Le Ψ Ψ') {a : Addr} {u : HO} (h : Rd Ψ.fz a u) : Rd Ψ'.fz a u := h.elim (fun h => .inl (x.phi _ _ h)) fun ⟨o, h⟩ => .inr ⟨o, x.phi _ _ h⟩
theorem Le.sqT {K : PySem.W.Frag} {Ψ Ψ' : Wd} (x : Le Ψ Ψ') {a : Addr} {vs : List V} (h : SqT K Ψ.fz a vs) : SqT K Ψ'.fz a vs := h.elim (fun h => .inl (x.rd h)) .inr
theorem Le.sqL {K : PySem.W.Frag} {Ψ Ψ' : Wd} (x : Le Ψ Ψ') {a : Addr} {vs : List V} (h : SqL K Ψ.fz a vs) : SqL K Ψ'.fz a vs := h.elim (fun h => .inl (x.rd h)) .inr
theorem Le.slt {Ψ Ψ' : Wd} (x : Le Ψ Ψ') {a C dx : Addr} {vs : List (Option V)} (h : SlX.Slt Ψ.fz a C dx vs) : SlX.Slt Ψ'.fz a C dx vs :=
  h.elim (fun h => .inl ⟨x.phi _ _ h.1, h.2⟩) fun h => .inr ⟨x.phi _ _ h.1, x.phi _ _ h.2⟩
theorem Rep.mono {c : Cf} {Ψ Ψ' : Wd} (x : Le Ψ Ψ') {v : V} {d : D} (h : Rep c Ψ v d) : Rep c Ψ' v d := by
  refine Rep.rec (motive_1 := fun v d _ => Rep c Ψ' v d) (motive_2 := fun vs ds _ => Reps c Ψ' vs ds) ?_ ?_ ?_ ?_ ?_ ?_ ?_ ?_ ?_ ?_ ?_ ?_ ?_ ?_ h
  · exact .non
  · exact fun b => .bl b
  · exact fun b => .int b
  · exact fun b => .str b
  · exact fun h l _ r => .tup (x.sqT h) l r
  · exact fun h l _ r => .lst (x.phi _ _ h) l r
  · exact fun h l _ r => .scr (x.sqL h) l r
  · exact fun h _ r => .ins (x.slt h) r
  · exact fun h e _ r => .dct (x.phi _ _ h) e r
  · exact fun h => .obj (x.mu _ _ h)
  · exact fun k => .cls k
  · exact fun k => .ty k
  · exact .nil
  · exact fun _ _ a b => .cons a b
theorem Reps.mono {c : Cf} {Ψ Ψ' : Wd} (x : Le Ψ Ψ') : ∀ {vs : List V} {ds : List D}, Reps c Ψ vs ds → Reps c Ψ' vs ds
  | _, _, .nil => .nil
  | _, _, .cons h t => .cons (h.mono x) (Reps.mono x t)
theorem Reps.length {c : Cf} {Ψ : Wd} : ∀ {vs : List V} {ds : List D}, Reps c Ψ vs ds → vs.length = ds.length
  | _, _, .nil => rfl
  | _, _, .cons _ t => by rw [List.length_cons, List.length_cons, Reps.length t]
theorem Reps.get {c : Cf} {Ψ : Wd} : ∀ {vs : List V} {ds : List D} {i : Nat} {d : D}, Reps c Ψ vs ds → ds[i]? = some d → ∃ v, vs[i]? = some v ∧ Rep c Ψ v d
  | _, _, _, _, .nil, e => by simp at e
  | _, _, 0, _, .cons h _, e => by simp at e; subst e; exact ⟨_, rfl, h⟩
  | _, _, i + 1, _, .cons _ t, e => by
    obtain ⟨v, h1, h2⟩ := Reps.get (i := i) t (by simpa using e)
    exact ⟨v, by simpa using h1, h2⟩
theorem Reps.getV {c : Cf} {Ψ : Wd} : ∀ {vs : List V} {ds : List D} {i : Nat} {v : V}, Reps c Ψ vs ds → vs[i]? = some v → ∃ d, ds[i]? = some d ∧ Rep c Ψ v d
  | _, _, _, _, .nil, e => by simp at e
  | _, _, 0, _, .cons h _, e => by simp at e; subst e; exact ⟨_, rfl, h⟩
  | _, _, i + 1, _, .cons _ t, e => by
    obtain ⟨v, h1, h2⟩ := Reps.getV (i := i) t (by simpa using e)
    exact ⟨v, by simpa using h1, h2⟩
theorem Reps.app {c : Cf} {Ψ : Wd} : ∀ {vs ws : List V} {ds es : List D}, Reps c Ψ vs ds → Reps c Ψ ws es → Reps c Ψ (vs ++ ws) (ds ++ es)
  | _, _, _, _, .nil, s => s
  | _, _, _, _, .cons h t, s => .cons h (Reps.app t s)
theorem Reps.take {c : Cf} {Ψ : Wd} : ∀ {vs : List V} {ds : List D} (n : Nat), Reps c Ψ vs ds → Reps c Ψ (vs.take n) (ds.take n)
  | _, _, 0, _ => .nil
  | _, _, _ + 1, .nil => .nil
  | _, _, n + 1, .cons h t => .cons h (Reps.take n t)
theorem Reps.drop {c : Cf} {Ψ : Wd} : ∀ {vs : List V} {ds : List D} (n : Nat), Reps c Ψ vs ds → Reps c Ψ (vs.drop n) (ds.drop n)
  | _, _, 0, h => h
  | _, _, _ + 1, .nil => .nil
  | _, _, n + 1, .cons _ t => Reps.drop n t
theorem Reps.set {c : Cf} {Ψ : Wd} {v : V} {d : D} (r : Rep c Ψ v d) : ∀ {vs : List V} {ds : List D} (i : Nat), Reps c Ψ vs ds → Reps c Ψ (vs.set i v) (ds.set i d)
  | _, _, _, .nil => .nil
  | _, _, 0, .cons _ t => .cons r t
  | _, _, i + 1, .cons h t => .cons h (Reps.set r i t)
theorem Reps.erase {c : Cf} {Ψ : Wd} : ∀ {vs : List V} {ds : List D} (i : Nat), Reps c Ψ vs ds → Reps c Ψ (vs.eraseIdx i) (ds.eraseIdx i)
  | _, _, _, .nil => .nil
  | _, _, 0, .cons _ t => t
  | _, _, i + 1, .cons h t => .cons h (Reps.erase i t)
theorem Reps.rev {c : Cf} {Ψ : Wd} : ∀ {vs : List V} {ds : List D}, Reps c Ψ vs ds → Reps c Ψ vs.reverse ds.reverse
  | _, _, .nil => .nil
  | _, _, .cons h t => by rw [List.reverse_cons, List.reverse_cons]; exact Reps.app (Reps.rev t) (.cons h .nil)
theorem Reps.flat {c : Cf} {Ψ : Wd} {vs : List V} {ds : List D} (r : Reps c Ψ vs ds) : ∀ k : Nat, Reps c Ψ (List.replicate k vs).flatten (List.replicate k ds).flatten
  | 0 => .nil
  | k + 1 => by
    rw [List.replicate_succ, List.replicate_succ, List.flatten_cons, List.flatten_cons]
    exact r.app (Reps.flat r k)

def Foot (Ψ : Wd) (b : Addr) : Prop := ∃ (n : Nat) (p : Addr × Addr), Ψ.sh[n]? = some p ∧ (b = p.1 ∨ b = p.2)
/-- from (Ψ, H) to (Ψ', H'): only shared objects have changed, what is newly known is new -/
structure Ext (Ψ : Wd) (H : Hp) (Ψ' : Wd) (H' : Hp) : Prop where
  le : Le Ψ Ψ'
  dom : ∀ b, H' b = none → H b = none
  nphi : ∀ a o, Ψ'.fz a = some o → Ψ.fz a = some o ∨ H a = none
  nmu : ∀ b, Foot Ψ' b → Foot Ψ b ∨ H b = none
  keep : ∀ b o, H b = some o → ¬ Foot Ψ b → H' b = some o
def ObOk (c : Cf) (Ψ : Wd) (H : Hp) (p : Addr × Addr) : Ob → Prop
  | .lst ds => ∃ vs, H p.1 = some (.lst vs) ∧ p.2 = p.1 ∧ vs.length ≤ LIM ∧ Reps c Ψ vs ds
  | .ins k fs => ∃ vs, SlX.Slt H p.1 (c.cls k) p.2 (vs.map some) ∧ p.2 ≠ p.1 ∧ H p.2 ≠ none ∧ Reps c Ψ vs fs
structure StoOk (c : Cf) (Ψ : Wd) (H : Hp) (S : Sto) : Prop where
  phi : ∀ a o, Ψ.fz a = some o → H a = some o
  off : ∀ a, Foot Ψ a → Ψ.fz a = none
  nd : ∀ (i j : Nat) (p q : Addr × Addr), Ψ.sh[i]? = some p → Ψ.sh[j]? = some q → i ≠ j → p.1 ≠ q.1 ∧ p.1 ≠ q.2 ∧ p.2 ≠ q.1 ∧ p.2 ≠ q.2
  len : Ψ.sh.length = S.length
  obj : ∀ (n : Nat) (o : Ob), S[n]? = some o → ∃ p : Addr × Addr, Ψ.sh[n]? = some p ∧ ObOk c Ψ H p o
theorem Slt.there {H : Hp} {a C dx : Addr} {vs : List (Option V)} (h : SlX.Slt H a C dx vs) : H a ≠ none := by
  rcases h with h | h <;> (rw [h.1]; exact fun z => nomatch z)
theorem StoOk.foot {c : Cf} {Ψ : Wd} {H : Hp} {S : Sto} (s : StoOk c Ψ H S) {b : Addr} (f : Foot Ψ b) : ∃ (n : Nat) (p : Addr × Addr) (o : Ob), Ψ.sh[n]? = some p ∧ S[n]? = some o ∧ (b = p.1 ∨ b = p.2) := by
  obtain ⟨n, p, h, e⟩ := f
  have hl : n < S.length := by rw [← s.len]; exact (List.getElem?_eq_some_iff.mp h).1
  exact ⟨n, p, S[n], h, List.getElem?_eq_getElem hl, e⟩
theorem Ext.refl (Ψ : Wd) (H : Hp) : Ext Ψ H Ψ H := ⟨Le.refl _, fun _ h => h, fun _ _ h => .inl h, fun _ h => .inl h, fun _ _ h _ => h⟩
theorem Ext.trans {A B C : Wd} {H H1 H2 : Hp} (x : Ext A H B H1) (y : Ext B H1 C H2) : Ext A H C H2 where
  le := x.le.trans y.le
  dom := fun b h => x.dom b (y.dom b h)
  nphi := fun a o h => by
    rcases y.nphi a o h with h | h
    · exact x.nphi a o h
    · exact .inr (x.dom a h)
  nmu := fun b h => by
    rcases y.nmu b h with h | h
    · exact x.nmu b h
    · exact .inr (x.dom b h)
  keep := fun b o h n => by
    refine y.keep b o (x.keep b o h n) fun f => ?_
    rcases x.nmu b f with z | z
    · exact n z
    · rw [h] at z; cases z

/-- a place of the frame -/
inductive Slot where
  | no
  | val (d : D)
  | own (ds : List D)
  | ownI (k : Nat) (fs : List (Option D))
  | ownD (ks : List (Key × D))
abbrev Env := List Slot
def RepsO (c : Cf) (Ψ : Wd) (vs : List (Option V)) (fs : List (Option D)) : Prop := ∀ (i : Nat) (d : D), fs[i]? = some (some d) → ∃ v, vs[i]? = some (some v) ∧ Rep c Ψ v d
def SlotOk (c : Cf) (Ψ : Wd) (H : Hp) (F : List Addr) (o : Option (Option V)) : Slot → Prop
  | .no => F = []
  | .val d => F = [] ∧ ∃ v, o = some (some v) ∧ Rep c Ψ v d
  | .own ds => ∃ a vs, F = [a] ∧ o = some (some (.ref a)) ∧ H a = some (.lst vs) ∧ vs.length ≤ LIM ∧ Reps c Ψ vs ds
  | .ownI k fs => ∃ a dx vs, F = [a, dx] ∧ o = some (some (.ref a)) ∧ SlX.Slt H a (c.cls k) dx vs ∧ H dx ≠ none ∧ dx ≠ a ∧ vs.length ≤ fs.length ∧ RepsO c Ψ vs fs
  | .ownD ks => ∃ a kvs, F = [a] ∧ o = some (some (.ref a)) ∧ H a = some (.dK kvs) ∧ kvs.map (·.1) = ks.map (·.1) ∧ Reps c Ψ (kvs.map (·.2)) (ks.map (·.2))
structure EnvOk (c : Cf) (Ψ : Wd) (σ : L2.St) (ρ : Env) (H : Hp) (F : Nat → List Addr) : Prop where
  len : σ.length = ρ.length
  slot : ∀ (i : Nat) s, ρ[i]? = some s → SlotOk c Ψ H (F i) σ[i]? s
  out : ∀ (i : Nat), ρ[i]? = none → F i = []
  priv : ∀ i b, b ∈ F i → Ψ.fz b = none ∧ ¬ Foot Ψ b ∧ H b ≠ none
  sep : ∀ i j b, i ≠ j → b ∈ F i → b ∉ F j
theorem Slt.keep {H H' : Hp} {a C dx : Addr} {vs : List (Option V)} (h : SlX.Slt H a C dx vs) (k : ∀ b, b = a ∨ b = dx → ∀ o, H b = some o → H' b = some o) : SlX.Slt H' a C dx vs := by
  rcases h with h | h
  · exact .inl ⟨k a (.inl rfl) _ h.1, h.2⟩
  · exact .inr ⟨k a (.inl rfl) _ h.1, k dx (.inr rfl) _ h.2⟩
theorem RepsO.mono {c : Cf} {Ψ Ψ' : Wd} (x : Le Ψ Ψ') {vs : List (Option V)} {fs : List (Option D)} (h : RepsO c Ψ vs fs) : RepsO c Ψ' vs fs := fun i d e => by
  obtain ⟨v, h1, h2⟩ := h i d e
  exact ⟨v, h1, h2.mono x⟩
theorem SlotOk.keep {c : Cf} {Ψ Ψ' : Wd} {H H' : Hp} {F : List Addr} {o : Option (Option V)} {s : Slot} (h : SlotOk c Ψ H F o s) (x : Le Ψ Ψ') (k : ∀ b ∈ F, ∀ u, H b = some u → H' b = some u) : SlotOk c Ψ' H' F o s := by
  cases s with
  | no => exact h
  | val d => obtain ⟨e, v, h1, h2⟩ := h; exact ⟨e, v, h1, h2.mono x⟩
  | own ds => obtain ⟨a, vs, e, h1, h2, l, h3⟩ := h; exact ⟨a, vs, e, h1, k a (by rw [e]; simp) _ h2, l, h3.mono x⟩
  | ownD ks => obtain ⟨a, vs, e, h1, h2, l, h3⟩ := h; exact ⟨a, vs, e, h1, k a (by rw [e]; simp) _ h2, l, h3.mono x⟩
  | ownI kk fs =>
    obtain ⟨a, dx, vs, e, h1, h2, h3, ne, l, h4⟩ := h
    refine ⟨a, dx, vs, e, h1, Slt.keep h2 (fun b hb => k b (by rw [e]; rcases hb with rfl | rfl <;> simp)), fun z => ?_, ne, l, h4.mono x⟩
    cases q : H dx with
    | none => exact h3 q
    | some u => rw [k dx (by rw [e]; simp) u q] at z; cases z
theorem EnvOk.ext {c : Cf} {Ψ Ψ' : Wd} {σ : L2.St} {ρ : Env} {H H' : Hp} {F : Nat → List Addr} (e : EnvOk c Ψ σ ρ H F) (x : Ext Ψ H Ψ' H') : EnvOk c Ψ' σ ρ H' F := by
  refine ⟨e.len, fun i s hs => (e.slot i s hs).keep x.le fun b hb u hu => x.keep b u hu (e.priv i b hb).2.1, e.out, fun i b hb => ?_, e.sep⟩
  obtain ⟨p1, p2, p3⟩ := e.priv i b hb
  refine ⟨?_, fun f => ?_, fun z => p3 (x.dom b z)⟩
  · cases q : Ψ'.fz b with
    | none => rfl
    | some o =>
      rcases x.nphi b o q with z | z
      · rw [p1] at z; cases z
      · exact absurd z p3
  · rcases x.nmu b f with z | z
    · exact p2 z
    · exact p3 z
end Sm

/-! text: Sim2 -/
set_option Elab.async false
set_option linter.all false
set_option maxRecDepth 100000
set_option maxHeartbeats 1000000
namespace Sm
open PySem PySem.Spec PyProof.Rows L2

/-- what is told of an exception: its own dict, where it has fields -/
def XRep (c : Cf) (Ψ : Wd) (fs : List D) (d : Option Addr) : Prop := match fs with
  | [] => d = none
  | f :: _ => ∃ dd x v, d = some dd ∧ Ψ.fz dd = some (.xd [(x, v)]) ∧ Rep c Ψ v f
def ErrP (c : Cf) (W : XK) (Ψ : Wd) (H : Hp) (k : Nat) (fs : List D) (S : Sto) : Prop :=
  ∀ Ψ' d H', Ext Ψ H Ψ' H' → StoOk c Ψ' H' S → XRep c Ψ' fs d → W (.ref (c.cls k)) d H'
def Post (c : Cf) {α : Type} (W : XK) (Ψ : Wd) (H : Hp) (r : Res α) (R : α → Sto → Prop) : Prop := match r with
  | .ok a S => R a S
  | .err k fs S => ErrP c W Ψ H k fs S
  | .stuck => False
theorem ErrP.mono {c : Cf} {W : XK} {Ψ Ψ' : Wd} {H H' : Hp} {k : Nat} {fs : List D} {S : Sto} (x : Ext Ψ H Ψ' H') (h : ErrP c W Ψ H k fs S) : ErrP c W Ψ' H' k fs S :=
  fun Ψ2 d H2 y => h Ψ2 d H2 (x.trans y)
theorem Post.mono {c : Cf} {α : Type} {W : XK} {Ψ : Wd} {H : Hp} {r : Res α} {R R' : α → Sto → Prop} (h : Post c W Ψ H r R) (k : ∀ a S, R a S → R' a S) : Post c W Ψ H r R' := by
  cases r with
  | ok a S => exact k a S h
  | err k fs S => exact h
  | stuck => exact h
theorem Post.bd {c : Cf} {α β : Type} {W : XK} {Ψ : Wd} {H : Hp} {m : M α} {f : α → M β} {S : Sto} {R : β → Sto → Prop} (h : Post c W Ψ H (bd m f S) R) :
    Post c W Ψ H (m S) fun a S1 => Post c W Ψ H (f a S1) R := by
  unfold Sm.bd at h
  cases e : m S with
  | ok a S1 => rw [e] at h; exact h
  | err k fs S1 => rw [e] at h; exact h
  | stuck => rw [e] at h; exact h.elim
theorem Post.ext {c : Cf} {α : Type} {W : XK} {Ψ Ψ' : Wd} {H H' : Hp} {r : Res α} {R : α → Sto → Prop} (x : Ext Ψ H Ψ' H') (h : Post c W Ψ H r R) : Post c W Ψ' H' r R := by
  cases r with
  | ok a S => exact h
  | err k fs S => exact ErrP.mono x h
  | stuck => exact h
theorem Post.noX {c : Cf} {α : Type} {W W' : XK} {Ψ : Wd} {H : Hp} {m : M α} {S : Sto} {R : α → Sto → Prop} (h : Post c W Ψ H (noX m S) R) : Post c W' Ψ H (m S) R := by
  unfold Sm.noX at h
  cases e : m S with
  | ok a S1 => rw [e] at h; exact h
  | err k fs S1 => rw [e] at h; exact h.elim
  | stuck => rw [e] at h; exact h.elim

/-- it comes to an end, without an error -/
def Ok0 {α : Type} (r : Res α) (R : α → Sto → Prop) : Prop := match r with
  | .ok a S => R a S
  | _ => False
theorem Ok0.mono {α : Type} {r : Res α} {R R' : α → Sto → Prop} (h : Ok0 r R) (k : ∀ a S, R a S → R' a S) : Ok0 r R' := by
  cases r with
  | ok a S => exact k a S h
  | err k fs S => exact h
  | stuck => exact h
theorem Ok0.post {c : Cf} {α : Type} {W : XK} {Ψ : Wd} {H : Hp} {r : Res α} {R : α → Sto → Prop} (h : Ok0 r R) : Post c W Ψ H r R := by
  cases r with
  | ok a S => exact h
  | err k fs S => exact h.elim
  | stuck => exact h.elim
theorem Ok0.bd {α β : Type} {m : M α} {f : α → M β} {S : Sto} {R : β → Sto → Prop} (h : Ok0 (bd m f S) R) : Ok0 (m S) fun a S1 => Ok0 (f a S1) R := by
  unfold Sm.bd at h
  cases e : m S with
  | ok a S1 => rw [e] at h; exact h
  | err k fs S1 => rw [e] at h; exact h.elim
  | stuck => rw [e] at h; exact h.elim
theorem Post.ok0 {c : Cf} {α : Type} {W : XK} {Ψ : Wd} {H : Hp} {m : M α} {S : Sto} {R : α → Sto → Prop} (h : Post c W Ψ H (Sm.noX m S) R) : Ok0 (m S) R := by
  unfold Sm.noX at h
  cases e : m S with
  | ok a S1 => rw [e] at h; exact h
  | err k fs S1 => rw [e] at h; exact h.elim
  | stuck => rw [e] at h; exact h.elim

/-- a list that is only read may stand as the frame's own -/
def RepB (c : Cf) (Ψ : Wd) (σ : L2.St) (ρ : Env) (v : V) (d : D) : Prop := Rep c Ψ v d ∨ ∃ (i : Nat) (ds : List D), d = .lst ds ∧ ρ[i]? = some (.own ds) ∧ σ[i]? = some (some v)
/-- .. by the heap -/
def RepH (c : Cf) (Ψ : Wd) (H : Hp) (v : V) (d : D) : Prop := Rep c Ψ v d ∨ ∃ a vs ds, v = .ref a ∧ d = .lst ds ∧ H a = some (.lst vs) ∧ vs.length ≤ LIM ∧ Reps c Ψ vs ds
theorem RepB.h {c : Cf} {Ψ : Wd} {σ : L2.St} {ρ : Env} {H : Hp} {F : Nat → List Addr} {v : V} {d : D} (e : EnvOk c Ψ σ ρ H F) (r : RepB c Ψ σ ρ v d) : RepH c Ψ H v d := by
  rcases r with r | ⟨i, ds, rfl, h1, h2⟩
  · exact .inl r
  · obtain ⟨a, vs, _, z, h3, l, h4⟩ := e.slot i _ h1
    rw [h2] at z
    exact .inr ⟨a, vs, ds, by injection z with z; injection z, rfl, h3, l, h4⟩
theorem RepB.mono {c : Cf} {Ψ Ψ' : Wd} {σ : L2.St} {ρ : Env} {v : V} {d : D} (x : Le Ψ Ψ') (r : RepB c Ψ σ ρ v d) : RepB c Ψ' σ ρ v d := r.elim (fun r => .inl (r.mono x)) .inr
inductive RepBs (c : Cf) (Ψ : Wd) (σ : L2.St) (ρ : Env) : List V → List D → Prop
  | nil : RepBs c Ψ σ ρ [] []
  | cons {v : V} {vs : List V} {d : D} {ds : List D} (h : RepB c Ψ σ ρ v d) (t : RepBs c Ψ σ ρ vs ds) : RepBs c Ψ σ ρ (v :: vs) (d :: ds)

/-! ### readings -/
abbrev RN (c : Cf) (Ψ : Wd) (H : Hp) (Q : VK) : List D → Sto → Prop := fun ds S' => ∀ Ψ' a vs H', Ext Ψ H Ψ' H' → StoOk c Ψ' H' S' → H' a = some (.lst vs) → vs.length ≤ LIM → Reps c Ψ' vs ds → Ψ'.fz a = none → ¬ Foot Ψ' a → H a = none → Q (.ref a) H'
section
variable (c : Cf) (W : L2.St → XK)
def rB (m : Env → M D) : TE := fun σ H Q => ∃ Ψ ρ S F, StoOk c Ψ H S ∧ EnvOk c Ψ σ ρ H F ∧
  Post c (W σ) Ψ H (m ρ S) fun d S' => ∀ Ψ' v H', Ext Ψ H Ψ' H' → StoOk c Ψ' H' S' → RepB c Ψ' σ ρ v d → Q v H'
def rE (m : Env → M D) : TE := fun σ H Q => ∃ Ψ ρ S F, StoOk c Ψ H S ∧ EnvOk c Ψ σ ρ H F ∧
  Post c (W σ) Ψ H (m ρ S) fun d S' => ∀ Ψ' v H', Ext Ψ H Ψ' H' → StoOk c Ψ' H' S' → Rep c Ψ' v d → Q v H'
/-- a list that no one knows as yet -/
def rN (m : Env → M (List D)) : TE := fun σ H Q => ∃ Ψ ρ S F, StoOk c Ψ H S ∧ EnvOk c Ψ σ ρ H F ∧
  Post c (W σ) Ψ H (m ρ S) (RN c Ψ H Q)
def rT (m : Env → M Bool) : TT := fun σ H Q => ∃ Ψ ρ S F, StoOk c Ψ H S ∧ EnvOk c Ψ σ ρ H F ∧
  Post c (W σ) Ψ H (m ρ S) fun b S' => ∀ Ψ' H', Ext Ψ H Ψ' H' → StoOk c Ψ' H' S' → Q b H'
def rA (m : Env → M (List D)) : TA := fun σ H Q => ∃ Ψ ρ S F, StoOk c Ψ H S ∧ EnvOk c Ψ σ ρ H F ∧
  Post c (W σ) Ψ H (m ρ S) fun ds S' => ∀ Ψ' vs H', Ext Ψ H Ψ' H' → StoOk c Ψ' H' S' → Reps c Ψ' vs ds → Q vs H'
def rAB (m : Env → M (List D)) : TA := fun σ H Q => ∃ Ψ ρ S F, StoOk c Ψ H S ∧ EnvOk c Ψ σ ρ H F ∧
  Post c (W σ) Ψ H (m ρ S) fun ds S' => ∀ Ψ' vs H', Ext Ψ H Ψ' H' → StoOk c Ψ' H' S' → RepBs c Ψ' σ ρ vs ds → Q vs H'
end

/-- judgements. SB: read at once; SE: a value that may be kept; SN: a new list -/
structure SB (c : Cf) (X : Cx) (W : L2.St → XK) (e : Expr) (m : Env → M D) : Prop where
  k : X.K = c.K
  p : PE X e (rB c W m)
structure SE (c : Cf) (X : Cx) (W : L2.St → XK) (e : Expr) (m : Env → M D) : Prop where
  k : X.K = c.K
  p : PE X e (rE c W m)
structure SN (c : Cf) (X : Cx) (W : L2.St → XK) (e : Expr) (m : Env → M (List D)) : Prop where
  k : X.K = c.K
  p : PE X e (rN c W m)
structure ST (c : Cf) (X : Cx) (W : L2.St → XK) (e : Expr) (m : Env → M Bool) : Prop where
  k : X.K = c.K
  p : PT X e (rT c W m)
structure SA (c : Cf) (X : Cx) (W : L2.St → XK) (es : List Expr) (m : Env → M (List D)) : Prop where
  k : X.K = c.K
  p : PA X es (rA c W m)
structure SAB (c : Cf) (X : Cx) (W : L2.St → XK) (es : List Expr) (m : Env → M (List D)) : Prop where
  k : X.K = c.K
  p : PA X es (rAB c W m)

theorem PE.imp {X : Cx} {e : Expr} {t u : TE} (h : PE X e t) (k : ∀ σ H Q, u σ H Q → t σ H Q) : PE X e u := ⟨fun pins s σ H Q I q => h.run pins s σ H Q I (k _ _ _ q)⟩
theorem PT.imp {X : Cx} {e : Expr} {t u : TT} (h : PT X e t) (k : ∀ σ H Q, u σ H Q → t σ H Q) : PT X e u := ⟨fun pins s σ H Q I q => h.run pins s σ H Q I (k _ _ _ q)⟩
theorem PW.imp {X : Cx} {e : Expr} {t u : TT} (h : PW X e t) (k : ∀ σ H Q, u σ H Q → t σ H Q) : PW X e u := ⟨fun wh pins s σ H Q I q => h.run wh pins s σ H Q I (k _ _ _ q)⟩
theorem PA.imp {X : Cx} {es : List Expr} {t u : TA} (h : PA X es t) (k : ∀ σ H Q, u σ H Q → t σ H Q) : PA X es u := ⟨fun pos pins s σ H Q I q => h.run pos pins s σ H Q I (k _ _ _ q)⟩
theorem PS.imp {X : Cx} {st : Stmt} {t u : TS} (h : PS X st t) (k : ∀ D σ H, u D σ H → t D σ H) : PS X st u := ⟨fun pins s σ H D I q => h.run pins s σ H D I (k _ _ _ q)⟩
theorem PSs.imp {X : Cx} {st : List Stmt} {t u : TS} (h : PSs X st t) (k : ∀ D σ H, u D σ H → t D σ H) : PSs X st u := ⟨fun pins s σ H D I q => h.run pins s σ H D I (k _ _ _ q)⟩

/-! ### the new -/
/-- a new object is laid: nothing is known of it as yet -/
theorem Ext.lay {Ψ : Wd} {H : Hp} {p : Addr} {o : HO} (hp : H p = none) : Ext Ψ H Ψ (upd H p o) :=
  ⟨Le.refl _, fun b h => by
    by_cases e : b = p
    · subst e; exact hp
    · rw [upd_ne e] at h; exact h, fun _ _ h => .inl h, fun _ h => .inl h, fun b u h _ => by rw [upd_ne (ne_of_none h hp)]; exact h⟩
theorem StoOk.ofKeep {c : Cf} {Ψ : Wd} {H H' : Hp} {S : Sto} (s : StoOk c Ψ H S) (k : ∀ b o, H b = some o → H' b = some o) : StoOk c Ψ H' S where
  phi := fun a o h => k _ _ (s.phi a o h)
  off := s.off
  nd := s.nd
  len := s.len
  obj := fun n o h => by
    obtain ⟨p, h1, h2⟩ := s.obj n o h
    refine ⟨p, h1, ?_⟩
    cases o with
    | lst ds => obtain ⟨vs, a, b, l, d⟩ := h2; exact ⟨vs, k _ _ a, b, l, d⟩
    | ins kk fs =>
      obtain ⟨vs, a, b, nz, d⟩ := h2
      refine ⟨vs, Slt.keep a (fun b _ => k b), b, fun z => ?_, d⟩
      cases q : H p.2 with
      | none => exact nz q
      | some u => rw [k _ u q] at z; cases z
theorem StoOk.lay {c : Cf} {Ψ : Wd} {H : Hp} {S : Sto} (s : StoOk c Ψ H S) {p : Addr} {o : HO} (hp : H p = none) : StoOk c Ψ (upd H p o) S :=
  s.ofKeep fun b u h => by rw [upd_ne (ne_of_none h hp)]; exact h
/-- an object becomes known -/
def Wd.know (Ψ : Wd) (a : Addr) (o : HO) : Wd := ⟨upd Ψ.fz a o, Ψ.sh⟩
theorem Foot.know {Ψ : Wd} {a b : Addr} {o : HO} : Foot (Ψ.know a o) b ↔ Foot Ψ b := Iff.rfl
theorem Le.know {Ψ : Wd} {a : Addr} {o : HO} (h : Ψ.fz a = none) : Le Ψ (Ψ.know a o) := ⟨fun b u e => by show upd Ψ.fz a o b = _; rw [upd_ne (ne_of_none e h)]; exact e, fun _ _ e => e⟩
theorem StoOk.know {c : Cf} {Ψ : Wd} {H : Hp} {S : Sto} (s : StoOk c Ψ H S) {a : Addr} {o : HO} (h : H a = some o) (n : Ψ.fz a = none) (f : ¬ Foot Ψ a) : StoOk c (Ψ.know a o) H S where
  phi := fun b u e => by
    by_cases q : b = a
    · subst q
      have e' : upd Ψ.fz b o b = some u := e
      rw [upd_same] at e'; cases e'; exact h
    · have e' : upd Ψ.fz a o b = some u := e
      rw [upd_ne q] at e'; exact s.phi b u e'
  off := fun b e => by
    show upd Ψ.fz a o b = none
    have q : b ≠ a := fun z => f (by rw [← z]; exact e)
    rw [upd_ne q]; exact s.off b e
  nd := s.nd
  len := s.len
  obj := fun i u e => by
    obtain ⟨p, h1, h2⟩ := s.obj i u e
    refine ⟨p, h1, ?_⟩
    cases u with
    | lst ds => obtain ⟨vs, a, b, l, d⟩ := h2; exact ⟨vs, a, b, l, d.mono (Le.know n)⟩
    | ins kk fs => obtain ⟨vs, a, b, nz, d⟩ := h2; exact ⟨vs, a, b, nz, d.mono (Le.know n)⟩
/-- laid and known at once -/
theorem Ext.new {Ψ : Wd} {H : Hp} {p : Addr} {o : HO} (hp : H p = none) (n : Ψ.fz p = none) : Ext Ψ H (Ψ.know p o) (upd H p o) where
  le := Le.know n
  dom := (Ext.lay (Ψ := Ψ) hp).dom
  nphi := fun a u h => by
    by_cases e : a = p
    · subst e; exact .inr hp
    · have h' : upd Ψ.fz p o a = some u := h
      rw [upd_ne e] at h'; exact .inl h'
  nmu := fun b h => .inl h
  keep := (Ext.lay (Ψ := Ψ) hp).keep
theorem StoOk.phiNone {c : Cf} {Ψ : Wd} {H : Hp} {S : Sto} (s : StoOk c Ψ H S) {p : Addr} (hp : H p = none) : Ψ.fz p = none := by
  cases e : Ψ.fz p with
  | none => rfl
  | some o => rw [s.phi p o e] at hp; cases hp
theorem StoOk.footNone {c : Cf} {Ψ : Wd} {H : Hp} {S : Sto} (s : StoOk c Ψ H S) {b : Addr} (hp : H b = none) : ¬ Foot Ψ b := fun f => by
  obtain ⟨n, p, o, h1, h2, e⟩ := s.foot f
  obtain ⟨p', h3, h4⟩ := s.obj n o h2
  rw [h1] at h3
  cases h3
  cases o with
  | lst ds =>
    obtain ⟨vs, a, b', _⟩ := h4
    rcases e with rfl | rfl
    · rw [a] at hp; cases hp
    · rw [b', a] at hp; cases hp
  | ins k fs =>
    obtain ⟨vs, a, _, nz, _⟩ := h4
    rcases e with rfl | rfl
    · exact Slt.there a hp
    · exact nz hp
theorem StoOk.new {c : Cf} {Ψ : Wd} {H : Hp} {S : Sto} (s : StoOk c Ψ H S) {p : Addr} {o : HO} (hp : H p = none) : StoOk c (Ψ.know p o) (upd H p o) S :=
  (s.lay hp).know upd_same (s.phiNone hp) (s.footNone hp)
end Sm

/-! text: Sim3 -/
set_option Elab.async false
set_option linter.all false
set_option maxRecDepth 100000
set_option maxHeartbeats 1000000
namespace Sm
open PySem PySem.Spec PyProof.Rows L2

/-! ### what RepH tells -/
section
variable {c : Cf} {Ψ : Wd} {H : Hp} {S : Sto} {v : V}
theorem sqT_phi {K : PySem.W.Frag} (s : StoOk c Ψ H S) {a : Addr} {vs : List V} (h : SqT K Ψ.fz a vs) : SqT K H a vs := by
  rcases h with (h | ⟨o, h⟩) | h
  · exact .inl (.inl (s.phi _ _ h))
  · exact .inl (.inr ⟨o, s.phi _ _ h⟩)
  · exact .inr h
theorem slt_phi (s : StoOk c Ψ H S) {a C dx : Addr} {vs : List (Option V)} (h : SlX.Slt Ψ.fz a C dx vs) : SlX.Slt H a C dx vs :=
  h.elim (fun h => .inl ⟨s.phi _ _ h.1, h.2⟩) fun h => .inr ⟨s.phi _ _ h.1, s.phi _ _ h.2⟩
theorem RepH.lst (s : StoOk c Ψ H S) {ds : List D} (h : RepH c Ψ H v (.lst ds)) : ∃ a vs, v = .ref a ∧ H a = some (.lst vs) ∧ vs.length ≤ LIM ∧ Reps c Ψ vs ds := by
  rcases h with h | ⟨a, vs, ds', rfl, e, h1, l, h2⟩
  · cases h with
    | lst h l r => exact ⟨_, _, rfl, s.phi _ _ h, l, r⟩
  · injection e with e; subst e; exact ⟨a, vs, rfl, h1, l, h2⟩
theorem RepH.rep {d : D} (h : RepH c Ψ H v d) (n : ∀ ds, d ≠ .lst ds) : Rep c Ψ v d := by
  rcases h with h | ⟨a, vs, ds', rfl, e, h1, l, h2⟩
  · exact h
  · exact absurd e (n _)
theorem RepH.tup (s : StoOk c Ψ H S) {ds : List D} (h : RepH c Ψ H v (.tup ds)) : ∃ a vs, v = .ref a ∧ SqT c.K H a vs ∧ vs.length ≤ LIM ∧ Reps c Ψ vs ds := by
  cases h.rep (fun _ z => by cases z) with
  | tup h0 l0 r0 => exact ⟨_, _, rfl, sqT_phi s h0, l0, r0⟩
theorem sqL_phi {K : PySem.W.Frag} (s : StoOk c Ψ H S) {a : Addr} {vs : List V} (h : SqL K Ψ.fz a vs) : SqL K H a vs := by
  rcases h with (h | ⟨o, h⟩) | h
  · exact .inl (.inl (s.phi _ _ h))
  · exact .inl (.inr ⟨o, s.phi _ _ h⟩)
  · exact .inr h
theorem RepH.scr (s : StoOk c Ψ H S) {ds : List D} (h : RepH c Ψ H v (.scr ds)) : ∃ a vs, v = .ref a ∧ SqL c.K H a vs ∧ vs.length ≤ LIM ∧ Reps c Ψ vs ds := by
  cases h.rep (fun _ z => by cases z) with
  | scr h0 l0 r0 => exact ⟨_, _, rfl, sqL_phi s h0, l0, r0⟩
theorem RepH.int {i : Int} (h : RepH c Ψ H v (.int i)) : v = .int i := by
  cases h.rep (fun _ z => by cases z); rfl
theorem RepH.bl {i : Bool} (h : RepH c Ψ H v (.bl i)) : v = .bl i := by
  cases h.rep (fun _ z => by cases z); rfl
theorem RepH.str {i : Str} (h : RepH c Ψ H v (.str i)) : v = .str i := by
  cases h.rep (fun _ z => by cases z); rfl
theorem RepH.non (h : RepH c Ψ H v .non) : v = .non := by
  cases h.rep (fun _ z => by cases z); rfl
theorem RepH.ref (s : StoOk c Ψ H S) {n : Nat} {o : Ob} (e : S[n]? = some o) (h : RepH c Ψ H v (.ref n)) : ∃ p, Ψ.sh[n]? = some p ∧ v = .ref p.1 ∧ ObOk c Ψ H p o := by
  cases h.rep (fun _ z => by cases z) with
  | obj h =>
    obtain ⟨p, h1, h2⟩ := s.obj n o e
    rw [h] at h1; cases h1
    exact ⟨_, h, rfl, h2⟩
theorem RepH.ins (s : StoOk c Ψ H S) {k : Nat} {fs : List D} (h : RepH c Ψ H v (.ins k fs)) : ∃ a dx vs, v = .ref a ∧ SlX.Slt H a (c.cls k) dx (vs.map some) ∧ Reps c Ψ vs fs := by
  cases h.rep (fun _ z => by cases z) with
  | ins h0 r0 => exact ⟨_, _, _, rfl, slt_phi s h0, r0⟩
theorem RepH.isNon {d : D} (h : RepH c Ψ H v d) : decide (v = .non) = (match d with | .non => true | _ => false) := by
  rcases h with h | ⟨a, vs, ds', rfl, rfl, h1, l, h2⟩
  · cases h <;> first | rfl | exact decide_eq_false (fun z => nomatch z)
  · exact decide_eq_false (fun z => nomatch z)
end

/-! ### data -/
mutual
def D.py : D → Option PyData
  | .non => some .none
  | .bl b => some (.bool b)
  | .int i => some (.int i)
  | .str x => some (.str x)
  | .tup ds => match D.pys ds with
    | some xs => some (.tuple xs)
    | none => none
  | .lst ds => match D.pys ds with
    | some xs => some (.list xs)
    | none => none
  | _ => none
def D.pys : List D → Option (List PyData)
  | [] => some []
  | d :: ds => match D.py d, D.pys ds with
    | some x, some xs => some (x :: xs)
    | _, _ => none
end
mutual
theorem D.plain : ∀ {d : D} {p : PyData}, d.py = some p → p.plain = true
  | .non, _, h => by simp only [D.py, Option.some.injEq] at h; subst h; rfl
  | .bl _, _, h => by simp only [D.py, Option.some.injEq] at h; subst h; rfl
  | .int _, _, h => by simp only [D.py, Option.some.injEq] at h; subst h; rfl
  | .str _, _, h => by simp only [D.py, Option.some.injEq] at h; subst h; rfl
  | .tup ds, _, h => by
    unfold D.py at h
    split at h
    · cases h
      simp only [PyData.plain]
      exact D.plains (by assumption)
    · cases h
  | .lst ds, _, h => by
    unfold D.py at h
    split at h
    · cases h
      simp only [PyData.plain]
      exact D.plains (by assumption)
    · cases h
  | .scr _, _, h => by simp [D.py] at h
  | .ins _ _, _, h => by simp [D.py] at h
  | .dct _, _, h => by simp [D.py] at h
  | .ref _, _, h => by simp [D.py] at h
  | .cls _, _, h => by simp [D.py] at h
  | .ty _, _, h => by simp [D.py] at h
theorem D.plains : ∀ {ds : List D} {ps : List PyData}, D.pys ds = some ps → PyData.plainAll ps = true
  | [], _, h => by simp only [D.pys, Option.some.injEq] at h; subst h; rfl
  | d :: ds, _, h => by
    unfold D.pys at h
    split at h
    · cases h
      simp only [PyData.plainAll, Bool.and_eq_true]
      exact ⟨D.plain (by assumption), D.plains (by assumption)⟩
    · cases h
end
section
variable {c : Cf} {Ψ : Wd} {H : Hp} {S : Sto}
mutual
theorem Rep.dp (s : StoOk c Ψ H S) : ∀ {d : D} {v : V} {p : PyData}, Rep c Ψ v d → d.py = some p → Dp c.K H v p
  | .non, _, _, r, h => by simp only [D.py, Option.some.injEq] at h; subst h; cases r; exact .non
  | .bl _, _, _, r, h => by simp only [D.py, Option.some.injEq] at h; subst h; cases r; exact .bl _
  | .int _, _, _, r, h => by simp only [D.py, Option.some.injEq] at h; subst h; cases r; exact .int _
  | .str _, _, _, r, h => by simp only [D.py, Option.some.injEq] at h; subst h; cases r; exact .str _
  | .tup ds, _, _, r, h => by
    unfold D.py at h
    split at h
    · cases h
      cases r with
      | tup hs l r => exact .tup (sqT_phi s hs) (Reps.dps s r (by assumption))
    · cases h
  | .lst ds, _, _, r, h => by
    unfold D.py at h
    split at h
    · cases h
      cases r with
      | lst hs l r => exact .lst (SqL.of (s.phi _ _ hs)) (Reps.dps s r (by assumption))
    · cases h
  | .scr _, _, _, _, h => by simp [D.py] at h
  | .ins _ _, _, _, _, h => by simp [D.py] at h
  | .dct _, _, _, _, h => by simp [D.py] at h
  | .ref _, _, _, _, h => by simp [D.py] at h
  | .cls _, _, _, _, h => by simp [D.py] at h
  | .ty _, _, _, _, h => by simp [D.py] at h
theorem Reps.dps (s : StoOk c Ψ H S) : ∀ {ds : List D} {vs : List V} {ps : List PyData}, Reps c Ψ vs ds → D.pys ds = some ps → DpAll c.K H vs ps
  | [], _, _, r, h => by simp only [D.pys, Option.some.injEq] at h; subst h; cases r; exact .nil
  | d :: ds, _, _, r, h => by
    unfold D.pys at h
    split at h
    · cases h
      cases r with
      | cons r1 r2 => exact .cons (Rep.dp s r1 (by assumption)) (Reps.dps s r2 (by assumption))
    · cases h
end
theorem RepH.dp (s : StoOk c Ψ H S) {d : D} {v : V} {p : PyData} (r : RepH c Ψ H v d) (h : d.py = some p) : Dp c.K H v p := by
  rcases r with r | ⟨a, vs, ds, rfl, rfl, h1, l, h2⟩
  · exact r.dp s h
  · unfold D.py at h
    split at h
    · cases h
      exact .lst (SqL.of h1) (Reps.dps s h2 (by assumption))
    · cases h
end

/-! ### operations by values -/
/-- two operands, no store is changed -/
def V2 (c : Cf) (r : R2) (f : D → D → Sto → Option D) : Prop := ∀ Ψ H S x y a b d Q, StoOk c Ψ H S → RepH c Ψ H x a → RepH c Ψ H y b → f a b S = some d →
  (∀ Ψ' v H', Ext Ψ H Ψ' H' → StoOk c Ψ' H' S → Rep c Ψ' v d → Q v H') → r x y H Q
/-- .. that give a new list -/
def V2N (c : Cf) (r : R2) (f : D → D → Sto → Option (List D)) : Prop := ∀ Ψ H S x y a b ds Q, StoOk c Ψ H S → RepH c Ψ H x a → RepH c Ψ H y b → f a b S = some ds →
  (∀ p vs, H p = none → vs.length ≤ LIM → Reps c Ψ vs ds → Q (.ref p) (upd H p (.lst vs))) → r x y H Q
def V1 (c : Cf) (r : V → Hp → VK → Prop) (f : D → Sto → Option D) : Prop := ∀ Ψ H S x a d Q, StoOk c Ψ H S → RepH c Ψ H x a → f a S = some d →
  (∀ Ψ' v H', Ext Ψ H Ψ' H' → StoOk c Ψ' H' S → Rep c Ψ' v d → Q v H') → r x H Q
def op2 (f : D → D → Sto → Option D) (a b : D) : M D := fun S => match f a b S with
  | some d => .ok d S
  | none => .stuck
def op2N (f : D → D → Sto → Option (List D)) (a b : D) : M (List D) := fun S => match f a b S with
  | some d => .ok d S
  | none => .stuck
def op1 (f : D → Sto → Option D) (a : D) : M D := fun S => match f a S with
  | some d => .ok d S
  | none => .stuck
/-- the value itself, the heap as it is -/
theorem fin0 {c : Cf} {Ψ : Wd} {H : Hp} {S : Sto} {d : D} {Q : VK} {v : V} (s : StoOk c Ψ H S) (q : ∀ Ψ' v H', Ext Ψ H Ψ' H' → StoOk c Ψ' H' S → Rep c Ψ' v d → Q v H') (r : Rep c Ψ v d) : Q v H := q Ψ v H (Ext.refl _ _) s r
/-- a new tuple -/
theorem finT {c : Cf} {Ψ : Wd} {H : Hp} {S : Sto} {ds : List D} {vs : List V} {Q : VK} {p : Addr} (s : StoOk c Ψ H S) (q : ∀ Ψ' v H', Ext Ψ H Ψ' H' → StoOk c Ψ' H' S → Rep c Ψ' v (.tup ds) → Q v H') (l : vs.length ≤ LIM) (r : Reps c Ψ vs ds) (hp : H p = none) : Q (.ref p) (upd H p (.tup vs)) :=
  q _ _ _ (Ext.new hp (s.phiNone hp)) (s.new hp) (.tup (.inl (.inl upd_same)) l (r.mono (Le.know (s.phiNone hp))))
/-- a new list, kept as it is -/
theorem finL {c : Cf} {Ψ : Wd} {H : Hp} {S : Sto} {ds : List D} {vs : List V} {Q : VK} {p : Addr} (s : StoOk c Ψ H S) (q : ∀ Ψ' v H', Ext Ψ H Ψ' H' → StoOk c Ψ' H' S → Rep c Ψ' v (.lst ds) → Q v H') (l : vs.length ≤ LIM) (r : Reps c Ψ vs ds) (hp : H p = none) : Q (.ref p) (upd H p (.lst vs)) :=
  q _ _ _ (Ext.new hp (s.phiNone hp)) (s.new hp) (.lst (show upd Ψ.fz p _ p = _ from upd_same) l (r.mono (Le.know (s.phiNone hp))))
theorem V2N.v2 {c : Cf} {r : R2} {f : D → D → Sto → Option (List D)} (h : V2N c r f) : V2 c r (fun a b S => (f a b S).map .lst) := by
  intro Ψ H S x y a b d Q s ra rb e q
  obtain ⟨ds, e1, rfl⟩ := Option.map_eq_some_iff.mp e
  exact h Ψ H S x y a b ds Q s ra rb e1 fun p vs hp l r => finL s q l r hp
theorem V2.or {c : Cf} {r r' : R2} {f f' : D → D → Sto → Option D} (h : V2 c r f) (h' : V2 c r' f') : V2 c (fun x y H Q => r x y H Q ∨ r' x y H Q) (fun a b S => match f a b S with | some d => some d | none => f' a b S) := by
  intro Ψ H S x y a b d Q s ra rb e q
  dsimp only at e
  cases z : f a b S with
  | some d' => rw [z] at e; cases e; exact .inl (h Ψ H S x y a b _ Q s ra rb z q)
  | none => rw [z] at e; exact .inr (h' Ψ H S x y a b _ Q s ra rb e q)
theorem V1.or {c : Cf} {r r' : V → Hp → VK → Prop} {f f' : D → Sto → Option D} (h : V1 c r f) (h' : V1 c r' f') : V1 c (fun x H Q => r x H Q ∨ r' x H Q) (fun a S => match f a S with | some d => some d | none => f' a S) := by
  intro Ψ H S x a d Q s ra e q
  dsimp only at e
  cases z : f a S with
  | some d' => rw [z] at e; cases e; exact .inl (h Ψ H S x a _ Q s ra z q)
  | none => rw [z] at e; exact .inr (h' Ψ H S x a _ Q s ra e q)

/-- ints -/
def intsD (g : Int → Int → D) : D → D → Sto → Option D := fun a b _ => match a, b with
  | .int i, .int j => some (g i j)
  | _, _ => none
theorem v2_int {c : Cf} {g : Int → Int → V} {g' : Int → Int → D} (hg : ∀ i j Ψ, Rep c Ψ (g i j) (g' i j)) : V2 c (rI0 g) (intsD g') := by
  intro Ψ H S x y a b d Q s ra rb e q
  unfold intsD at e
  split at e
  · cases e
    cases ra.int; cases rb.int
    exact ⟨_, _, rfl, rfl, fin0 s q (hg _ _ _)⟩
  · cases e
def intsIf (C : Int → Int → Bool) (g : Int → Int → D) : D → D → Sto → Option D := fun a b _ => match a, b with
  | .int i, .int j => if C i j = true then some (g i j) else none
  | _, _ => none
theorem v2_intIf {c : Cf} {C : Int → Int → Prop} {C' : Int → Int → Bool} {g : Int → Int → V} {g' : Int → Int → D} (hC : ∀ i j, C' i j = true → C i j) (hg : ∀ i j Ψ, Rep c Ψ (g i j) (g' i j)) : V2 c (rI C g) (intsIf C' g') := by
  intro Ψ H S x y a b d Q s ra rb e q
  unfold intsIf at e
  split at e
  · split at e
    · cases e
      cases ra.int; cases rb.int
      exact ⟨_, _, rfl, rfl, hC _ _ (by assumption), fin0 s q (hg _ _ _)⟩
    · cases e
  · cases e
def addI : D → D → Sto → Option D := intsD fun i j => .int (i + j)
def subI : D → D → Sto → Option D := intsD fun i j => .int (i - j)
theorem v2_addI {c : Cf} : V2 c (rI0 fun i j => .int (i + j)) addI := v2_int fun _ _ _ => .int _
theorem v2_subI {c : Cf} : V2 c (rI0 fun i j => .int (i - j)) subI := v2_int fun _ _ _ => .int _
def smallI (i : Int) : Bool := decide (-(2 ^ 64) < i) && decide (i < 2 ^ 64)
def mulI : D → D → Sto → Option D := intsIf (fun i j => smallI i || smallI j) fun i j => .int (i * j)
theorem v2_mulI {c : Cf} : V2 c (rI CMul fun i j => .int (i * j)) mulI := v2_intIf (fun i j h => by
  simp only [smallI, Bool.or_eq_true, Bool.and_eq_true, decide_eq_true_eq] at h
  exact h) fun _ _ _ => .int _
def modI : D → D → Sto → Option D := intsIf (fun _ j => decide (0 < j)) fun i j => .int (i % j)
theorem v2_modI {c : Cf} : V2 c (rI (fun _ j => 0 < j) fun i j => .int (i % j)) modI := v2_intIf (fun i j h => of_decide_eq_true h) fun _ _ _ => .int _
def divI : D → D → Sto → Option D := intsIf (fun _ j => decide (0 < j) && decide (j < 2 ^ 1000)) fun i j => .int (i / j)
theorem v2_divI {c : Cf} : V2 c (rI CDivW fun i j => .int (i / j)) divI := v2_intIf (fun i j h => by
  simp only [Bool.and_eq_true, decide_eq_true_eq] at h
  refine wide_div h.1 (b := 1000) ?_ (by decide) (by decide)
  have h1 := h.1
  have h2 : ((j.natAbs : Nat) : Int) < ((2 ^ 1000 : Nat) : Int) := by
    rw [Int.natAbs_of_nonneg (by omega)]
    exact h.2
  exact Int.ofNat_lt.mp h2) fun _ _ _ => .int _
def powI : D → D → Sto → Option D := intsIf (fun i j => decide (0 ≤ j) && decide (j ≤ 100) && decide (i.natAbs < 1000)) fun i j => .int (i ^ j.toNat)
theorem v2_powI {c : Cf} : V2 c (rI CPow fun i j => .int (i ^ j.toNat)) powI := v2_intIf (fun i j h => by
  simp only [Bool.and_eq_true, decide_eq_true_eq] at h
  refine ⟨h.1.1, by omega, Nat.lt_of_lt_of_le h.2 (by decide)⟩) fun _ _ _ => .int _
def ltI : D → D → Sto → Option D := intsD fun i j => .bl (decide (i < j))
def leI : D → D → Sto → Option D := intsD fun i j => .bl (decide (i ≤ j))
def gtI : D → D → Sto → Option D := intsD fun i j => .bl (decide (j < i))
def geI : D → D → Sto → Option D := intsD fun i j => .bl (decide (j ≤ i))
theorem v2_ltI {c : Cf} : V2 c (rI0 fun i j => .bl (decide (i < j))) ltI := v2_int fun _ _ _ => .bl _
theorem v2_leI {c : Cf} : V2 c (rI0 fun i j => .bl (decide (i ≤ j))) leI := v2_int fun _ _ _ => .bl _
theorem v2_gtI {c : Cf} : V2 c (rI0 fun i j => .bl (decide (j < i))) gtI := v2_int fun _ _ _ => .bl _
theorem v2_geI {c : Cf} : V2 c (rI0 fun i j => .bl (decide (j ≤ i))) geI := v2_int fun _ _ _ => .bl _
/-- texts -/
def addS : D → D → Sto → Option D := fun a b _ => match a, b with
  | .str i, .str j => if i.length + j.length ≤ LIM then some (.str (i ++ j)) else none
  | _, _ => none
theorem v2_addS {c : Cf} : V2 c (fun x y H Q => ∃ i j, x = .str i ∧ y = .str j ∧ i.length + j.length ≤ sizeLine ∧ Q (.str (i ++ j)) H) addS := by
  intro Ψ H S x y a b d Q s ra rb e q
  unfold addS at e
  split at e
  · split at e
    · cases e
      cases ra.str; cases rb.str
      exact ⟨_, _, rfl, rfl, lim_of (by assumption), fin0 s q (.str _)⟩
    · cases e
  · cases e
/-- tuples -/
def addT : D → D → Sto → Option D := fun a b _ => match a, b with
  | .tup i, .tup j => if i.length + j.length ≤ LIM then some (.tup (i ++ j)) else none
  | _, _ => none
theorem Reps.nil_iff {c : Cf} {Ψ : Wd} {vs : List V} {ds : List D} (r : Reps c Ψ vs ds) : vs = [] ↔ ds = [] := by
  cases r <;> simp
theorem v2_addT {c : Cf} : V2 c (rCatA c.K) addT := by
  intro Ψ H S x y a b d Q s ra rb e q
  unfold addT at e
  split at e
  · split at e
    · cases e
      obtain ⟨a1, vs, rfl, h1, _, r1⟩ := ra.tup s
      obtain ⟨a2, ws, rfl, h2, _, r2⟩ := rb.tup s
      refine ⟨a1, a2, vs, ws, rfl, rfl, h1, h2, lim_of (by rw [r1.length, r2.length]; assumption), fun z => ?_, fun _ z => ?_, fun _ _ p hp => finT s q (by rw [List.length_append, r1.length, r2.length]; assumption) (r1.app r2) hp⟩
      · have z' := r1.nil_iff.mp z
        subst z'
        exact fin0 s q (rb.rep fun _ z => by cases z)
      · have z' := r2.nil_iff.mp z
        subst z'
        refine fin0 s q ?_
        rw [List.append_nil]
        exact ra.rep fun _ z => by cases z
    · cases e
  · cases e
/-- lists -/
def addL : D → D → Sto → Option (List D) := fun a b _ => match a, b with
  | .lst i, .lst j => if i.length + j.length ≤ LIM then some (i ++ j) else none
  | _, _ => none
theorem v2_addL {c : Cf} : V2N c rCat addL := by
  intro Ψ H S x y a b d Q s ra rb e q
  unfold addL at e
  split at e
  · split at e
    · cases e
      obtain ⟨a1, vs, rfl, h1, _, r1⟩ := ra.lst s
      obtain ⟨a2, ws, rfl, h2, _, r2⟩ := rb.lst s
      exact ⟨a1, a2, vs, ws, rfl, rfl, h1, h2, lim_of (by rw [r1.length, r2.length]; assumption), fun p hp => q p _ hp (by rw [List.length_append, r1.length, r2.length]; assumption) (r1.app r2)⟩
    · cases e
  · cases e
theorem flat_len {α : Type} (xs : List α) : ∀ k : Nat, (List.replicate k xs).flatten.length = k * xs.length
  | 0 => by simp
  | k + 1 => by rw [List.replicate_succ, List.flatten_cons, List.length_append, flat_len xs k, Nat.succ_mul, Nat.add_comm]
def mulL : D → D → Sto → Option (List D) := fun a b _ => match a, b with
  | .lst i, .int k => if decide (-1000 ≤ k) && decide (k ≤ 1000) && decide (i.length * k.toNat ≤ LIM) then some (List.replicate k.toNat i).flatten else none
  | _, _ => none
theorem v2_mulL {c : Cf} : V2N c rRep mulL := by
  intro Ψ H S x y a b d Q s ra rb e q
  unfold mulL at e
  split at e
  · split at e
    · cases e
      rename_i h
      simp only [Bool.and_eq_true, decide_eq_true_eq] at h
      obtain ⟨a1, vs, rfl, h1, _, r1⟩ := ra.lst s
      cases rb.int
      exact ⟨a1, _, vs, rfl, rfl, h1, by omega, by omega, lim_of (by rw [r1.length]; exact h.2), fun p hp => q p _ hp (by rw [flat_len, r1.length, Nat.mul_comm]; exact h.2) (r1.flat _)⟩
    · cases e
  · cases e
def isNil {α : Type} : List α → Bool
  | [] => true
  | _ => false
def mulT : D → D → Sto → Option D := fun a b _ => match a, b with
  | .tup i, .int k => if !isNil i && decide (2 ≤ k) && decide (k ≤ 1000) && decide (i.length ≤ 100) then some (.tup (List.replicate k.toNat i).flatten) else none
  | _, _ => none
theorem v2_mulT {c : Cf} : V2 c (rRepT c.K) mulT := by
  intro Ψ H S x y a b d Q s ra rb e q
  unfold mulT at e
  split at e
  · split at e
    · cases e
      rename_i h
      simp only [Bool.and_eq_true, decide_eq_true_eq] at h
      obtain ⟨a1, vs, rfl, h1, _, r1⟩ := ra.tup s
      cases rb.int
      refine ⟨a1, _, vs, rfl, rfl, h1, fun z => ?_, h.1.1.2, h.1.2, by rw [r1.length]; omega, fun p hp => finT s q (by
        rw [flat_len, r1.length]
        exact Nat.le_trans (Nat.mul_le_mul (show _ ≤ 1000 by omega) h.2) (by decide)) (r1.flat _) hp⟩
      have z' := r1.nil_iff.mp z
      subst z'
      exact absurd h.1.1.1 (by simp [isNil])
    · cases e
  · cases e
/-! ### comparisons -/
def eqD : D → D → Sto → Option D := fun a b _ => match a.py, b.py with
  | some x, some y => if min x.depth y.depth ≤ 60 then some (.bl (PyData.eqv x y)) else none
  | _, _ => none
def neD : D → D → Sto → Option D := fun a b _ => match a.py, b.py with
  | some x, some y => if min x.depth y.depth ≤ 60 then some (.bl (!PyData.eqv x y)) else none
  | _, _ => none
def rEqP (K : PySem.W.Frag) : R2 := fun x y H Q => ∃ d e, Dp K H x d ∧ Dp K H y e ∧ d.plain = true ∧ e.plain = true ∧ min d.depth e.depth ≤ 60 ∧ Q (.bl (PyData.eqv d e)) H
def rNeP (K : PySem.W.Frag) : R2 := fun x y H Q => ∃ d e, Dp K H x d ∧ Dp K H y e ∧ d.plain = true ∧ e.plain = true ∧ min d.depth e.depth ≤ 60 ∧ Q (.bl (!PyData.eqv d e)) H
theorem op_eqP {X : Cx} (hu : X.A.units + 64 < cLine) : OpR X (compareOp .Eq) (rEqP X.K) := by
  intro pins s σ H x y v u Q I rx ry h
  obtain ⟨d, e, hd, he, sd, se, m, q⟩ := h
  obtain ⟨as, r1⟩ := Dp.reads I d x v hd rx
  obtain ⟨bs, r2⟩ := Dp.reads I e y u he ry
  exact SeqAt.eq_plain r1 r2 sd se (by omega) ⟨.bl _, H, I, rfl, q⟩
theorem op_neP {X : Cx} (hu : X.A.units + 64 < cLine) : OpR X (compareOp .NotEq) (rNeP X.K) := by
  intro pins s σ H x y v u Q I rx ry h
  obtain ⟨d, e, hd, he, sd, se, m, q⟩ := h
  obtain ⟨as, r1⟩ := Dp.reads I d x v hd rx
  obtain ⟨bs, r2⟩ := Dp.reads I e y u he ry
  exact SeqAt.ne_plain r1 r2 sd se (by omega) ⟨.bl _, H, I, rfl, q⟩
theorem v2_eqD {c : Cf} : V2 c (rEqP c.K) eqD := by
  intro Ψ H S x y a b d Q s ra rb e q
  unfold eqD at e
  split at e
  · split at e
    · cases e
      rename_i h1 h2 h3
      exact ⟨_, _, ra.dp s h1, rb.dp s h2, D.plain h1, D.plain h2, h3, fin0 s q (.bl _)⟩
    · cases e
  · cases e
theorem v2_neD {c : Cf} : V2 c (rNeP c.K) neD := by
  intro Ψ H S x y a b d Q s ra rb e q
  unfold neD at e
  split at e
  · split at e
    · cases e
      rename_i h1 h2 h3
      exact ⟨_, _, ra.dp s h1, rb.dp s h2, D.plain h1, D.plain h2, h3, fin0 s q (.bl _)⟩
    · cases e
  · cases e
/-- x in a list, a tuple of data -/
def anyE (xs : List PyData) (d : PyData) : Bool := xs.any fun y => PyData.eqv y d
def inD (neg : Bool) : D → D → Sto → Option D := fun a b _ => match a.py, b.py with
  | some x, some (.list ys) => if min (PyData.depthAll ys) x.depth ≤ 60 then some (.bl (if neg then !anyE ys x else anyE ys x)) else none
  | some x, some (.tuple ys) => if min (PyData.depthAll ys) x.depth ≤ 60 then some (.bl (if neg then !anyE ys x else anyE ys x)) else none
  | _, _ => none
def rInP (K : PySem.W.Frag) (neg : Bool) : R2 := fun x y H Q => ∃ d e ys, Dp K H x d ∧ Dp K H y e ∧ (e = .list ys ∨ e = .tuple ys) ∧ d.plain = true ∧ PyData.plainAll ys = true ∧ min (PyData.depthAll ys) d.depth ≤ 60 ∧ Q (.bl (if neg then !anyE ys d else anyE ys d)) H
theorem op_inP {X : Cx} (hu : X.A.units + 64 < cLine) : OpR X (compareOp .In) (rInP X.K false) := by
  intro pins s σ H x y v u Q I rx ry h
  obtain ⟨d, e, ys, hd, he, ek, sd, se, m, q⟩ := h
  obtain ⟨as, r1⟩ := Dp.reads I d x v hd rx
  obtain ⟨bs, r2⟩ := Dp.reads I e y u he ry
  rcases ek with rfl | rfl
  · exact SeqAt.in_list_data r2 r1 se sd (by omega) ⟨.bl _, H, I, rfl, q⟩
  · exact SeqAt.in_tuple_data r2 r1 se sd (by omega) ⟨.bl _, H, I, rfl, q⟩
theorem op_notInP {X : Cx} (hu : X.A.units + 64 < cLine) : OpR X (compareOp .NotIn) (rInP X.K true) := by
  intro pins s σ H x y v u Q I rx ry h
  obtain ⟨d, e, ys, hd, he, ek, sd, se, m, q⟩ := h
  obtain ⟨as, r1⟩ := Dp.reads I d x v hd rx
  obtain ⟨bs, r2⟩ := Dp.reads I e y u he ry
  rcases ek with rfl | rfl
  · exact SeqAt.notIn_list_data r2 r1 se sd (by omega) ⟨.bl _, H, I, rfl, q⟩
  · exact SeqAt.notIn_tuple_data r2 r1 se sd (by omega) ⟨.bl _, H, I, rfl, q⟩
theorem v2_inD {c : Cf} {neg : Bool} : V2 c (rInP c.K neg) (inD neg) := by
  intro Ψ H S x y a b d Q s ra rb e q
  unfold inD at e
  split at e
  · split at e
    · cases e
      rename_i h1 h2 h3
      have p := D.plain h2
      simp only [PyData.plain] at p
      exact ⟨_, _, _, ra.dp s h1, rb.dp s h2, .inl rfl, D.plain h1, p, h3, fin0 s q (.bl _)⟩
    · cases e
  · split at e
    · cases e
      rename_i h1 h2 h3
      have p := D.plain h2
      simp only [PyData.plain] at p
      exact ⟨_, _, _, ra.dp s h1, rb.dp s h2, .inr rfl, D.plain h1, p, h3, fin0 s q (.bl _)⟩
    · cases e
  · cases e
/-- x in a text -/
def inS (neg : Bool) : D → D → Sto → Option D := fun a b _ => match a, b with
  | .str i, .str j => some (.bl (if neg then !!(Builtin.Str.occurrences j i 0 j.length 1).isEmpty else !(Builtin.Str.occurrences j i 0 j.length 1).isEmpty))
  | _, _ => none
theorem v2_inS {c : Cf} : V2 c (fun x y H Q => ∃ i j, x = .str i ∧ y = .str j ∧ Q (.bl (!(Builtin.Str.occurrences j i 0 j.length 1).isEmpty)) H) (inS false) := by
  intro Ψ H S x y a b d Q s ra rb e q
  unfold inS at e
  split at e
  · cases e
    cases ra.str; cases rb.str
    exact ⟨_, _, rfl, rfl, fin0 s q (.bl _)⟩
  · cases e
theorem v2_notInS {c : Cf} : V2 c (fun x y H Q => ∃ i j, x = .str i ∧ y = .str j ∧ Q (.bl (!(!(Builtin.Str.occurrences j i 0 j.length 1).isEmpty))) H) (inS true) := by
  intro Ψ H S x y a b d Q s ra rb e q
  unfold inS at e
  split at e
  · cases e
    cases ra.str; cases rb.str
    exact ⟨_, _, rfl, rfl, fin0 s q (.bl _)⟩
  · cases e
/-- is None -/
def isN (neg : Bool) : D → Sto → Option D := fun a _ => some (.bl (match a with
  | .non => !neg
  | _ => neg))
/-- a place of a list, a tuple -/
def ixD : D → D → Sto → Option D := fun a b S => match a, b with
  | .tup ds, .int i => atI ds i
  | .lst ds, .int i => atI ds i
  | .ref n, .int i => match S[n]? with
    | some (.lst ds) => atI ds i
    | _ => none
  | .scr ds, .int i => atI ds i
  | .str z, .int i => if z.length ≤ 100000 then (atI z.cps.toList i).map fun k => D.str ⟨#[k]⟩ else none
  | _, _ => none
theorem Reps.atI {c : Cf} {Ψ : Wd} {vs : List V} {ds : List D} {i : Int} {d : D} (r : Reps c Ψ vs ds) (h : L2.atI ds i = some d) : ∃ v, L2.atI vs i = some v ∧ Rep c Ψ v d := by
  unfold L2.atI at h ⊢
  rw [r.length]
  cases e : ixN ds.length i with
  | none => rw [e] at h; cases h
  | some j =>
    rw [e] at h
    exact r.get h
theorem v2_ixD {c : Cf} : V2 c (rIx c.K) ixD := by
  intro Ψ H S x y a b d Q s ra rb e q
  unfold ixD at e
  split at e
  · obtain ⟨a1, vs, rfl, h1, _, r1⟩ := ra.tup s
    cases rb.int
    obtain ⟨v, h2, r2⟩ := r1.atI e
    exact .inr (.inl ⟨a1, vs, _, v, rfl, rfl, h1, h2, fin0 s q r2⟩)
  · obtain ⟨a1, vs, rfl, h1, _, r1⟩ := ra.lst s
    cases rb.int
    obtain ⟨v, h2, r2⟩ := r1.atI e
    exact .inl ⟨a1, vs, _, v, rfl, rfl, SqL.of h1, h2, fin0 s q r2⟩
  · split at e
    · rename_i z
      obtain ⟨p, h0, rfl, vs, h1, _, _, r1⟩ := ra.ref s z
      cases rb.int
      obtain ⟨v, h2, r2⟩ := r1.atI e
      exact .inl ⟨p.1, vs, _, v, rfl, rfl, SqL.of h1, h2, fin0 s q r2⟩
    · cases e
  · obtain ⟨a1, vs, rfl, h1, _, r1⟩ := ra.scr s
    cases rb.int
    obtain ⟨v, h2, r2⟩ := r1.atI e
    exact .inl ⟨a1, vs, _, v, rfl, rfl, h1, h2, fin0 s q r2⟩
  · split at e
    · rename_i z i hz
      cases ra.str; cases rb.int
      cases hk : L2.atI z.cps.toList i with
      | none => rw [hk] at e; cases e
      | some k =>
        rw [hk] at e
        cases e
        exact .inr (.inr ⟨z, i, k, rfl, rfl, lim_of hz, hk, fin0 s q (.str _)⟩)
    · cases e
  · cases e
end Sm

/-! text: Sim4 -/
set_option Elab.async false
set_option linter.all false
set_option maxRecDepth 100000
set_option maxHeartbeats 1000000
namespace Sm
open PySem PySem.Spec PyProof.Rows L2

def asB (d : D) : M Bool := fun S => match d with
  | .bl b => .ok b S
  | _ => .stuck
def vl (ρ : Env) (i : Nat) : M D := fun S => match ρ[i]? with
  | some (.val d) => .ok d S
  | _ => .stuck
/-- .. or the frame's own list, to be read at once -/
def vb (ρ : Env) (i : Nat) : M D := fun S => match ρ[i]? with
  | some (.val d) => .ok d S
  | some (.own ds) => .ok (.lst ds) S
  | _ => .stuck
def iteM {α : Type} (b : Bool) (x y : M α) : M α := match b with
  | true => x
  | false => y
def andT (a b : M Bool) : M Bool := bd a fun x => iteM x b (rt false)
def orT (a b : M Bool) : M Bool := bd a fun x => iteM x (rt true) b
def notT (a : M Bool) : M Bool := bd a fun x => rt (!x)
def andV (a b : M D) : M D := bd a fun x => bd (asB x) fun t => iteM t b (rt (.bl false))
def orV (a b : M D) : M D := bd a fun x => bd (asB x) fun t => iteM t (rt (.bl true)) b
def notV (a : M D) : M D := bd a fun x => bd (asB x) fun t => rt (.bl (!t))
def boolT (a : M D) : M Bool := bd a asB

section
variable {c : Cf} {X : Cx} {W : L2.St → XK} {e a b : Expr} {es : List Expr} {pos p2 : Pos}
/-! ### from one judgement to another -/
theorem SE.sb {m : Env → M D} (h : SE c X W e m) : SB c X W e m := ⟨h.k, PE.imp h.p fun σ H Q ⟨Ψ, ρ, S, F, so, eo, q⟩ => ⟨Ψ, ρ, S, F, so, eo, q.mono fun d S' k Ψ' v H' x s r => k Ψ' v H' x s (.inl r)⟩⟩
theorem SN.se {m : Env → M (List D)} (h : SN c X W e m) : SE c X W e (fun ρ => bd (m ρ) fun ds => rt (.lst ds)) := by
  refine ⟨h.k, PE.imp h.p fun σ H Q ⟨Ψ, ρ, S, F, so, eo, q⟩ => ⟨Ψ, ρ, S, F, so, eo, q.bd.mono fun ds S' k Ψ' a vs H' x s h1 l r n f hn => ?_⟩⟩
  refine k (Ψ'.know a (.lst vs)) (.ref a) H' ⟨x.le.trans (Le.know n), x.dom, fun b o e => ?_, x.nmu, x.keep⟩ (s.know h1 n f) (.lst (show upd Ψ'.fz a _ a = _ from upd_same) l (r.mono (Le.know n)))
  by_cases z : b = a
  · subst z; exact .inr hn
  · have e' : upd Ψ'.fz a (.lst vs) b = some o := e
    rw [upd_ne z] at e'
    exact x.nphi b o e'
theorem Reps.bs {Ψ : Wd} {σ : L2.St} {ρ : Env} : ∀ {vs : List V} {ds : List D}, Reps c Ψ vs ds → RepBs c Ψ σ ρ vs ds
  | _, _, .nil => .nil
  | _, _, .cons h t => .cons (.inl h) (Reps.bs t)
theorem SA.sab {m : Env → M (List D)} (h : SA c X W es m) : SAB c X W es m := ⟨h.k, PA.imp h.p fun σ H Q ⟨Ψ, ρ, S, F, so, eo, q⟩ => ⟨Ψ, ρ, S, F, so, eo, q.mono fun ds S' k Ψ' vs H' x s r => k Ψ' vs H' x s r.bs⟩⟩
theorem SB.imp {m m' : Env → M D} (h : SB c X W e m) (k : ∀ ρ, m ρ = m' ρ) : SB c X W e m' := by
  have e : m = m' := funext k
  rw [← e]; exact h
theorem SE.imp {m m' : Env → M D} (h : SE c X W e m) (k : ∀ ρ, m ρ = m' ρ) : SE c X W e m' := by
  have e : m = m' := funext k
  rw [← e]; exact h
/-- what one way does not carry another one may -/
theorem SE.or {m m' : Env → M D} (h : SE c X W e m) (h' : SE c X W e m') : SE c X W e (fun ρ S => match m ρ S with
    | .stuck => m' ρ S
    | r => r) := by
  refine ⟨h.k, ⟨fun pins s σ H Q I q => ?_⟩⟩
  obtain ⟨Ψ, ρ, S, F, so, eo, q⟩ := q
  dsimp only at q
  cases z : m ρ S with
  | stuck => rw [z] at q; exact h'.p.run pins s σ H Q I ⟨Ψ, ρ, S, F, so, eo, q⟩
  | ok d S' => rw [z] at q; exact h.p.run pins s σ H Q I ⟨Ψ, ρ, S, F, so, eo, by rw [z]; exact q⟩
  | err k fs S' => rw [z] at q; exact h.p.run pins s σ H Q I ⟨Ψ, ρ, S, F, so, eo, by rw [z]; exact q⟩

/-! ### names and constants -/
theorem se_var (k : X.K = c.K) {i : Nat} {x : Str} (hN : X.N[i]? = some x := by rfl) (hv : Vis X.env.scope x := by first | exact Or.inl rfl | exact Or.inr (Or.inl rfl) | exact Or.inr (Or.inr rfl)) (hd : (x == ("__debug__" : Str)) = false := by decide)
    (hcd : (x == ("__classdict__" : Str)) = false := by decide) : SE c X W (.Name x pos) (fun ρ => vl ρ i) := by
  refine ⟨k, PE.imp (pe_var hN hv hd hcd) fun σ H Q ⟨Ψ, ρ, S, F, so, eo, q⟩ => ?_⟩
  unfold vl at q
  dsimp only at q
  split at q
  · rename_i d e
    obtain ⟨_, v, h1, h2⟩ := eo.slot i _ e
    exact ⟨v, h1, q Ψ v H (Ext.refl _ _) so h2⟩
  · exact q.elim
theorem sb_var (k : X.K = c.K) {i : Nat} {x : Str} (hN : X.N[i]? = some x := by rfl) (hv : Vis X.env.scope x := by first | exact Or.inl rfl | exact Or.inr (Or.inl rfl) | exact Or.inr (Or.inr rfl)) (hd : (x == ("__debug__" : Str)) = false := by decide)
    (hcd : (x == ("__classdict__" : Str)) = false := by decide) : SB c X W (.Name x pos) (fun ρ => vb ρ i) := by
  refine ⟨k, PE.imp (pe_var hN hv hd hcd) fun σ H Q ⟨Ψ, ρ, S, F, so, eo, q⟩ => ?_⟩
  unfold vb at q
  dsimp only at q
  split at q
  · rename_i d e
    obtain ⟨_, v, h1, h2⟩ := eo.slot i _ e
    exact ⟨v, h1, q Ψ v H (Ext.refl _ _) so (.inl h2)⟩
  · rename_i ds e
    obtain ⟨a, vs, _, h1, h2, _, h3⟩ := eo.slot i _ e
    exact ⟨_, h1, q Ψ _ H (Ext.refl _ _) so (.inr ⟨i, ds, rfl, e, h1⟩)⟩
  · exact q.elim
theorem se_const {t : TE} {v : V} {d : D} (k : X.K = c.K) (h : PE X e (tC v)) (r : ∀ Ψ, Rep c Ψ v d) : SE c X W e (fun _ => rt d) :=
  ⟨k, PE.imp h fun σ H Q ⟨Ψ, ρ, S, F, so, eo, q⟩ => q Ψ v H (Ext.refl _ _) so (r Ψ)⟩
theorem se_int (k : X.K = c.K) {i : Int} {j} : SE c X W (.Constant (.int i) j pos) (fun _ => rt (.int i)) := se_const (t := tC .non) k pe_int fun _ => .int _
theorem se_bl (k : X.K = c.K) {i : Bool} {j} : SE c X W (.Constant (.bool i) j pos) (fun _ => rt (.bl i)) := se_const (t := tC .non) k pe_bl fun _ => .bl _
theorem se_str (k : X.K = c.K) {i : Str} {j} : SE c X W (.Constant (.str i) j pos) (fun _ => rt (.str i)) := se_const (t := tC .non) k pe_str fun _ => .str _
theorem se_non (k : X.K = c.K) {j} : SE c X W (.Constant .none j pos) (fun _ => rt .non) := se_const (t := tC .non) k pe_non fun _ => .non
/-- a module's constant -/
theorem se_glob (k : X.K = c.K) {x : Str} {v : V} {u : Value} {d : D} (hg : Gl X x) (hm : X.mg x = some u) (r : RelV v u) (rd : ∀ Ψ, Rep c Ψ v d) (hd : (x == ("__debug__" : Str)) = false := by decide) : SE c X W (.Name x pos) (fun _ => rt d) :=
  se_const (t := tC .non) k (pe_glob hg hm r hd) rd
theorem se_bltn (k : X.K = c.K) {x : Str} {v : V} {u : Value} {d : D} (hg : Gl X x) (hm : X.mg x = none) (hv : bootBuiltins x = some u) (r : RelV v u) (rd : ∀ Ψ, Rep c Ψ v d) (hn : x ≠ "__name__" := by decide) (hd : (x == ("__debug__" : Str)) = false := by decide) : SE c X W (.Name x pos) (fun _ => rt d) :=
  se_const (t := tC .non) k (pe_bltn hg hm hv r hn hd) rd

/-! ### argument lists, displays -/
theorem sa_nil (k : X.K = c.K) : SA c X W [] (fun _ => rt []) := ⟨k, PA.imp pa_nil fun σ H Q ⟨Ψ, ρ, S, F, so, eo, q⟩ => q Ψ [] H (Ext.refl _ _) so .nil⟩
def consM {α : Type} (m : M α) (ms : M (List α)) : M (List α) := bd m fun x => bd ms fun xs => rt (x :: xs)
theorem sa_cons {m : Env → M D} {ms : Env → M (List D)} (h : SE c X W e m) (t : SA c X W es ms) (hs : starEach (e :: es) X.env = (false, eval e X.env) :: starEach es X.env := by rfl) : SA c X W (e :: es) (fun ρ => consM (m ρ) (ms ρ)) := by
  refine ⟨h.k, PA.imp (pa_cons h.p t.p hs) fun σ H Q ⟨Ψ, ρ, S, F, so, eo, q⟩ => ⟨Ψ, ρ, S, F, so, eo, q.bd.mono fun d S1 q1 Ψ1 x H1 e1 so1 r1 => ?_⟩⟩
  refine ⟨Ψ1, ρ, S1, F, so1, eo.ext e1, (q1.ext e1).bd.mono fun ds S2 q2 Ψ2 xs H2 e2 so2 r2 => ?_⟩
  exact q2 Ψ2 _ H2 (e1.trans e2) so2 (.cons (r1.mono e2.le) r2)
theorem sab_nil (k : X.K = c.K) : SAB c X W [] (fun _ => rt []) := (sa_nil k).sab
theorem RepBs.mono {Ψ Ψ' : Wd} {σ : L2.St} {ρ : Env} (x : Le Ψ Ψ') {vs : List V} {ds : List D} (h : RepBs c Ψ σ ρ vs ds) : RepBs c Ψ' σ ρ vs ds := by
  induction h with
  | nil => exact .nil
  | cons h t ih => exact .cons (h.mono x) ih
theorem sab_cons {m : Env → M D} {ms : Env → M (List D)} (h : SB c X W e m) (t : SAB c X W es ms) (hs : starEach (e :: es) X.env = (false, eval e X.env) :: starEach es X.env := by rfl) : SAB c X W (e :: es) (fun ρ => consM (m ρ) (ms ρ)) := by
  refine ⟨h.k, PA.imp (pa_cons h.p t.p hs) fun σ H Q ⟨Ψ, ρ, S, F, so, eo, q⟩ => ⟨Ψ, ρ, S, F, so, eo, q.bd.mono fun d S1 q1 Ψ1 x H1 e1 so1 r1 => ?_⟩⟩
  refine ⟨Ψ1, ρ, S1, F, so1, eo.ext e1, (q1.ext e1).bd.mono fun ds S2 q2 Ψ2 xs H2 e2 so2 r2 => ?_⟩
  exact q2 Ψ2 _ H2 (e1.trans e2) so2 (.cons (r1.mono e2.le) r2)
def tupM (m : M (List D)) : M D := bd m fun ds => fun S => if ds.length ≤ LIM then .ok (.tup ds) S else .stuck
def lstM (m : M (List D)) : M (List D) := bd m fun ds => fun S => if ds.length ≤ LIM then .ok ds S else .stuck
theorem se_tup {m : Env → M (List D)} {x1} (h : SA c X W es m) : SE c X W (.Tuple es x1 pos) (fun ρ => tupM (m ρ)) := by
  refine ⟨h.k, PE.imp (pe_tup h.p) fun σ H Q ⟨Ψ, ρ, S, F, so, eo, q⟩ => ⟨Ψ, ρ, S, F, so, eo, q.bd.mono fun ds S1 q1 Ψ1 vs H1 e1 so1 r1 => ?_⟩⟩
  split at q1
  · exact ⟨lim_of (by rw [r1.length]; assumption), fun p hp => finT so1 (fun Ψ' v H' e2 so2 r2 => q1 Ψ' v H' (e1.trans e2) so2 r2) (by rw [r1.length]; assumption) r1 hp⟩
  · exact q1.elim
theorem sn_lst {m : Env → M (List D)} (h : SA c X W es m) : SN c X W (.List es pos) (fun ρ => lstM (m ρ)) := by
  refine ⟨h.k, PE.imp (pe_lst h.p) fun σ H Q ⟨Ψ, ρ, S, F, so, eo, q⟩ => ⟨Ψ, ρ, S, F, so, eo, q.bd.mono fun ds S1 q1 Ψ1 vs H1 e1 so1 r1 => ?_⟩⟩
  split at q1
  · exact ⟨lim_of (by rw [r1.length]; assumption), fun p hp => q1 Ψ1 p vs _ (e1.trans (Ext.lay hp)) (so1.lay hp) upd_same (by rw [r1.length]; assumption) r1 (so1.phiNone hp) (so1.footNone hp) (e1.dom p hp)⟩
  · exact q1.elim

/-! ### two operands -/
theorem two_r {r : R2} {f : D → D → Sto → Option D} (hr : V2 c r f) {ma mb : Env → M D} {σ : L2.St} {H : Hp} {Q : VK} (h : rE c W (fun ρ => bd (ma ρ) fun x => bd (mb ρ) fun y => op2 f x y) σ H Q) : tOp r (rB c W ma) (rB c W mb) σ H Q := by
  obtain ⟨Ψ, ρ, S, F, so, eo, h⟩ := h
  refine ⟨Ψ, ρ, S, F, so, eo, h.bd.mono fun a S1 h1 Ψ1 x H1 e1 so1 ra => ?_⟩
  refine ⟨Ψ1, ρ, S1, F, so1, eo.ext e1, (h1.ext e1).bd.mono fun b S2 h2 Ψ2 y H2 e2 so2 rb => ?_⟩
  unfold op2 at h2
  have ee := eo.ext (e1.trans e2)
  split at h2
  · rename_i d e
    exact hr Ψ2 H2 S2 x y a b d Q so2 ((ra.mono e2.le).h ee) (rb.h ee) e fun Ψ' v H' e3 so3 r3 => h2 Ψ' v H' ((e1.trans e2).trans e3) so3 r3
  · exact h2.elim
theorem two_n {r : R2} {f : D → D → Sto → Option (List D)} (hr : V2N c r f) {ma mb : Env → M D} {σ : L2.St} {H : Hp} {Q : VK} (h : rN c W (fun ρ => bd (ma ρ) fun x => bd (mb ρ) fun y => op2N f x y) σ H Q) : tOp r (rB c W ma) (rB c W mb) σ H Q := by
  obtain ⟨Ψ, ρ, S, F, so, eo, h⟩ := h
  refine ⟨Ψ, ρ, S, F, so, eo, h.bd.mono fun a S1 h1 Ψ1 x H1 e1 so1 ra => ?_⟩
  refine ⟨Ψ1, ρ, S1, F, so1, eo.ext e1, (h1.ext e1).bd.mono fun b S2 h2 Ψ2 y H2 e2 so2 rb => ?_⟩
  unfold op2N at h2
  have ee := eo.ext (e1.trans e2)
  split at h2
  · rename_i d e
    exact hr Ψ2 H2 S2 x y a b d Q so2 ((ra.mono e2.le).h ee) (rb.h ee) e fun p vs hp l3 r3 => h2 Ψ2 p vs _ ((e1.trans e2).trans (Ext.lay hp)) (so2.lay hp) upd_same l3 r3 (so2.phiNone hp) (so2.footNone hp) ((e1.trans e2).dom p hp)
  · exact h2.elim
theorem se_op {op : Operator} {r : R2} {f : D → D → Sto → Option D} {ma mb : Env → M D} (ho : OpR X (binaryOp op) r) (hr : V2 c r f) (ha : SB c X W a ma) (hb : SB c X W b mb) :
    SE c X W (.BinOp a op b pos) (fun ρ => bd (ma ρ) fun x => bd (mb ρ) fun y => op2 f x y) := ⟨ha.k, PE.imp (pe_op ho ha.p hb.p) fun σ H Q h => two_r hr h⟩
theorem sn_op {op : Operator} {r : R2} {f : D → D → Sto → Option (List D)} {ma mb : Env → M D} (ho : OpR X (binaryOp op) r) (hr : V2N c r f) (ha : SB c X W a ma) (hb : SB c X W b mb) :
    SN c X W (.BinOp a op b pos) (fun ρ => bd (ma ρ) fun x => bd (mb ρ) fun y => op2N f x y) := ⟨ha.k, PE.imp (pe_op ho ha.p hb.p) fun σ H Q h => two_n hr h⟩
theorem se_cmp {op : CmpOp} {r : R2} {f : D → D → Sto → Option D} {ma mb : Env → M D} (ho : OpR X (compareOp op) r) (hr : V2 c r f) (ha : SB c X W a ma) (hb : SB c X W b mb) (hm : behindInMarks op b = false := by first | exact nomark _ (by decide) (by decide) | rfl) :
    SE c X W (.Compare a [op] [b] pos) (fun ρ => bd (ma ρ) fun x => bd (mb ρ) fun y => op2 f x y) := ⟨ha.k, PE.imp (pe_cmpR ho ha.p hb.p hm) fun σ H Q h => two_r hr h⟩
theorem st_cmp {op : CmpOp} {r : R2} {f : D → D → Sto → Option D} {ma mb : Env → M D} (ho : OpR X (compareOp op) r) (hr : V2 c r f) (ha : SB c X W a ma) (hb : SB c X W b mb) (hm : behindInMarks op b = false := by first | exact nomark _ (by decide) (by decide) | rfl) :
    ST c X W (.Compare a [op] [b] pos) (fun ρ => boolT (bd (ma ρ) fun x => bd (mb ρ) fun y => op2 f x y)) := by
  refine ⟨ha.k, PT.imp (pt_cmpR ho ha.p hb.p hm) fun σ H Q ⟨Ψ, ρ, S, F, so, eo, q⟩ => ?_⟩
  refine two_r hr ⟨Ψ, ρ, S, F, so, eo, q.bd.mono fun d S1 q1 Ψ1 x H1 e1 so1 r1 => ?_⟩
  unfold asB at q1
  split at q1
  · cases r1
    exact ⟨_, rfl, q1 Ψ1 H1 e1 so1⟩
  · exact q1.elim
/-- an expression that gives True or False, as a test -/
theorem st_val {m : Env → M D} (h : SE c X W e m) (he : ∀ whole, isTrue e X.env whole = (do let v ← whole; standAt e.pos; holding [v] (truthy v)) := by intro _; rfl) : ST c X W e (fun ρ => boolT (m ρ)) := by
  refine ⟨h.k, PT.imp (pt_val h.p he) fun σ H Q ⟨Ψ, ρ, S, F, so, eo, q⟩ => ⟨Ψ, ρ, S, F, so, eo, q.bd.mono fun d S1 q1 Ψ1 x H1 e1 so1 r1 => ?_⟩⟩
  unfold asB at q1
  split at q1
  · cases r1
    exact ⟨_, rfl, q1 Ψ1 H1 e1 so1⟩
  · exact q1.elim
/-- a < b < c -/
def chainM (f g : D → D → Sto → Option D) (x y z : M D) : M D := bd x fun a => bd y fun b => bd (op2 f a b) fun r => bd (asB r) fun t => iteM t (bd z fun d => op2 g b d) (rt (.bl false))
end

/-! ### and, or, not -/
structure SW (c : Cf) (X : Cx) (W : L2.St → XK) (e : Expr) (m : Env → M Bool) : Prop where
  k : X.K = c.K
  p : PW X e (rT c W m)
section
variable {c : Cf} {X : Cx} {W : L2.St → XK} {e a b : Expr} {rest : List Expr} {pos p2 : Pos} {ma mb mc : Env → M Bool} {va vb vc : Env → M D}
theorem SW.st (h : SW c X W e ma) : ST c X W e ma := ⟨h.k, PW.pt h.p⟩
theorem sw_and1 (h : ST c X W a ma) : SW c X W (.BoolOp .And [a] pos) ma := ⟨h.k, pw_and1 h.p⟩
theorem sw_or1 (h : ST c X W a ma) : SW c X W (.BoolOp .Or [a] pos) ma := ⟨h.k, pw_or1 h.p⟩
theorem sw_and (h : ST c X W a ma) (t : SW c X W (.BoolOp .And (b :: rest) pos) mb) : SW c X W (.BoolOp .And (a :: b :: rest) pos) (fun ρ => andT (ma ρ) (mb ρ)) := by
  refine ⟨h.k, PW.imp (pw_and h.p t.p) fun σ H Q ⟨Ψ, ρ, S, F, so, eo, q⟩ => ⟨Ψ, ρ, S, F, so, eo, q.bd.mono fun t S1 q1 Ψ1 H1 e1 so1 => ?_⟩⟩
  cases t with
  | true =>
    rw [if_pos rfl]
    exact ⟨Ψ1, ρ, S1, F, so1, eo.ext e1, (q1.ext e1).mono fun t2 S2 q2 Ψ2 H2 e2 so2 => q2 Ψ2 H2 (e1.trans e2) so2⟩
  | false =>
    rw [if_neg Bool.false_ne_true]
    exact q1 Ψ1 H1 e1 so1
theorem sw_or (h : ST c X W a ma) (t : SW c X W (.BoolOp .Or (b :: rest) pos) mb) : SW c X W (.BoolOp .Or (a :: b :: rest) pos) (fun ρ => orT (ma ρ) (mb ρ)) := by
  refine ⟨h.k, PW.imp (pw_or h.p t.p) fun σ H Q ⟨Ψ, ρ, S, F, so, eo, q⟩ => ⟨Ψ, ρ, S, F, so, eo, q.bd.mono fun t S1 q1 Ψ1 H1 e1 so1 => ?_⟩⟩
  cases t with
  | true =>
    rw [if_pos rfl]
    exact q1 Ψ1 H1 e1 so1
  | false =>
    rw [if_neg Bool.false_ne_true]
    exact ⟨Ψ1, ρ, S1, F, so1, eo.ext e1, (q1.ext e1).mono fun t2 S2 q2 Ψ2 H2 e2 so2 => q2 Ψ2 H2 (e1.trans e2) so2⟩
theorem st_not (h : ST c X W a ma) : ST c X W (.UnaryOp .Not a pos) (fun ρ => notT (ma ρ)) :=
  ⟨h.k, PT.imp (pt_not h.p) fun σ H Q ⟨Ψ, ρ, S, F, so, eo, q⟩ => ⟨Ψ, ρ, S, F, so, eo, q.bd.mono fun t S1 q1 Ψ1 H1 e1 so1 => q1 Ψ1 H1 e1 so1⟩⟩
theorem se_and1 {op} (h : SE c X W a va) : SE c X W (.BoolOp op [a] pos) va := ⟨h.k, pe_one h.p⟩
theorem se_and (h : SE c X W a va) (t : SE c X W (.BoolOp .And (b :: rest) pos) vb) : SE c X W (.BoolOp .And (a :: b :: rest) pos) (fun ρ => andV (va ρ) (vb ρ)) := by
  refine ⟨h.k, PE.imp (pe_and h.p t.p) fun σ H Q ⟨Ψ, ρ, S, F, so, eo, q⟩ => ⟨Ψ, ρ, S, F, so, eo, q.bd.mono fun d S1 q1 Ψ1 x H1 e1 so1 r1 => ?_⟩⟩
  have q2 := q1.bd
  unfold asB at q2
  split at q2
  · rename_i t
    cases r1
    refine ⟨_, rfl, ?_⟩
    cases t with
    | true =>
      rw [if_pos rfl]
      have q5 : Post c (W σ) Ψ H (vb ρ S1) _ := q2
      exact ⟨Ψ1, ρ, S1, F, so1, eo.ext e1, (Post.ext e1 q5).mono fun t2 S2 q3 Ψ2 v2 H2 e2 so2 r2 => q3 Ψ2 v2 H2 (e1.trans e2) so2 r2⟩
    | false =>
      rw [if_neg Bool.false_ne_true]
      exact q2 Ψ1 _ H1 e1 so1 (.bl _)
  · exact q2.elim
theorem se_or (h : SE c X W a va) (t : SE c X W (.BoolOp .Or (b :: rest) pos) vb) : SE c X W (.BoolOp .Or (a :: b :: rest) pos) (fun ρ => orV (va ρ) (vb ρ)) := by
  refine ⟨h.k, PE.imp (pe_or h.p t.p) fun σ H Q ⟨Ψ, ρ, S, F, so, eo, q⟩ => ⟨Ψ, ρ, S, F, so, eo, q.bd.mono fun d S1 q1 Ψ1 x H1 e1 so1 r1 => ?_⟩⟩
  have q2 := q1.bd
  unfold asB at q2
  split at q2
  · rename_i t
    cases r1
    refine ⟨_, rfl, ?_⟩
    cases t with
    | true =>
      rw [if_pos rfl]
      exact q2 Ψ1 _ H1 e1 so1 (.bl _)
    | false =>
      rw [if_neg Bool.false_ne_true]
      have q5 : Post c (W σ) Ψ H (vb ρ S1) _ := q2
      exact ⟨Ψ1, ρ, S1, F, so1, eo.ext e1, (Post.ext e1 q5).mono fun t2 S2 q3 Ψ2 v2 H2 e2 so2 r2 => q3 Ψ2 v2 H2 (e1.trans e2) so2 r2⟩
  · exact q2.elim
theorem se_not (h : SE c X W a va) : SE c X W (.UnaryOp .Not a pos) (fun ρ => notV (va ρ)) := by
  refine ⟨h.k, PE.imp (pe_not h.p) fun σ H Q ⟨Ψ, ρ, S, F, so, eo, q⟩ => ⟨Ψ, ρ, S, F, so, eo, q.bd.mono fun d S1 q1 Ψ1 x H1 e1 so1 r1 => ?_⟩⟩
  have q2 := q1.bd
  unfold asB at q2
  split at q2
  · cases r1
    exact ⟨_, rfl, q2 Ψ1 _ H1 e1 so1 (.bl _)⟩
  · exact q2.elim
theorem se_if {cd : Expr} {mt : Env → M Bool} (h : ST c X W cd mt) (ha : SE c X W a va) (hb : SE c X W b vb) : SE c X W (.IfExp cd a b pos) (fun ρ => bd (mt ρ) fun t => iteM t (va ρ) (vb ρ)) := by
  refine ⟨h.k, PE.imp (pe_ifExp h.p ha.p hb.p) fun σ H Q ⟨Ψ, ρ, S, F, so, eo, q⟩ => ⟨Ψ, ρ, S, F, so, eo, q.bd.mono fun t S1 q1 Ψ1 H1 e1 so1 => ?_⟩⟩
  cases t with
  | true =>
    rw [if_pos rfl]
    exact ⟨Ψ1, ρ, S1, F, so1, eo.ext e1, (Post.ext e1 q1).mono fun t2 S2 q3 Ψ2 v2 H2 e2 so2 r2 => q3 Ψ2 v2 H2 (e1.trans e2) so2 r2⟩
  | false =>
    rw [if_neg Bool.false_ne_true]
    exact ⟨Ψ1, ρ, S1, F, so1, eo.ext e1, (Post.ext e1 q1).mono fun t2 S2 q3 Ψ2 v2 H2 e2 so2 r2 => q3 Ψ2 v2 H2 (e1.trans e2) so2 r2⟩
/-- is None, is not None -/
theorem se_isN {m : Env → M D} {j pos'} (h : SB c X W a m) : SE c X W (.Compare a [.Is] [.Constant .none j pos'] pos) (fun ρ => bd (m ρ) fun x => op1 (isN false) x) := by
  refine ⟨h.k, PE.imp (pe_cmp (pc_isN h.p)) fun σ H Q ⟨Ψ, ρ, S, F, so, eo, q⟩ => ⟨Ψ, ρ, S, F, so, eo, q.bd.mono fun d S1 q1 Ψ1 x H1 e1 so1 r1 => ?_⟩⟩
  show Q (.bl (decide (x = .non))) H1
  rw [(r1.h (eo.ext e1)).isNon]
  refine q1 Ψ1 _ H1 e1 so1 ?_
  cases d <;> exact .bl _
theorem se_notN {m : Env → M D} {j pos'} (h : SB c X W a m) : SE c X W (.Compare a [.IsNot] [.Constant .none j pos'] pos) (fun ρ => bd (m ρ) fun x => op1 (isN true) x) := by
  refine ⟨h.k, PE.imp (pe_cmp (pc_notN h.p)) fun σ H Q ⟨Ψ, ρ, S, F, so, eo, q⟩ => ⟨Ψ, ρ, S, F, so, eo, q.bd.mono fun d S1 q1 Ψ1 x H1 e1 so1 r1 => ?_⟩⟩
  show Q (.bl (!decide (x = .non))) H1
  rw [(r1.h (eo.ext e1)).isNon]
  refine q1 Ψ1 _ H1 e1 so1 ?_
  cases d <;> exact .bl _
theorem st_isN {m : Env → M D} {j pos'} (h : SB c X W a m) : ST c X W (.Compare a [.Is] [.Constant .none j pos'] pos) (fun ρ => boolT (bd (m ρ) fun x => op1 (isN false) x)) := by
  refine ⟨h.k, PT.imp (pt_cmp (pc_isN h.p)) fun σ H Q ⟨Ψ, ρ, S, F, so, eo, q⟩ => ⟨Ψ, ρ, S, F, so, eo, q.bd.bd.mono fun d S1 q1 Ψ1 x H1 e1 so1 r1 => ?_⟩⟩
  refine ⟨_, rfl, ?_⟩
  rw [(r1.h (eo.ext e1)).isNon]
  have q2 := q1 Ψ1 H1 e1 so1
  cases d <;> exact q2
theorem st_notN {m : Env → M D} {j pos'} (h : SB c X W a m) : ST c X W (.Compare a [.IsNot] [.Constant .none j pos'] pos) (fun ρ => boolT (bd (m ρ) fun x => op1 (isN true) x)) := by
  refine ⟨h.k, PT.imp (pt_cmp (pc_notN h.p)) fun σ H Q ⟨Ψ, ρ, S, F, so, eo, q⟩ => ⟨Ψ, ρ, S, F, so, eo, q.bd.bd.mono fun d S1 q1 Ψ1 x H1 e1 so1 r1 => ?_⟩⟩
  refine ⟨_, rfl, ?_⟩
  rw [(r1.h (eo.ext e1)).isNon]
  have q2 := q1 Ψ1 H1 e1 so1
  cases d <;> exact q2
/-- a < b < d -/
theorem one_r {r : R2} {f : D → D → Sto → Option D} (hr : V2 c r f) {Ψ : Wd} {H : Hp} {S : Sto} {x y : V} {d1 d2 : D} {Wσ : XK} {R : D → Sto → Prop} {Q : VK} (so : StoOk c Ψ H S) (ra : RepH c Ψ H x d1) (rb : RepH c Ψ H y d2)
    (h : Post c Wσ Ψ H (op2 f d1 d2 S) R) (k : ∀ d Ψ' v H', R d S → Ext Ψ H Ψ' H' → StoOk c Ψ' H' S → Rep c Ψ' v d → Q v H') : r x y H Q := by
  unfold op2 at h
  split at h
  · exact hr Ψ H S x y d1 d2 _ Q so ra rb (by assumption) fun Ψ' v H' e s r => k _ Ψ' v H' h e s r
  · exact h.elim
theorem chain_r {r r' : R2} {f g : D → D → Sto → Option D} (hr : V2 c r f) (hr' : V2 c r' g) {σ : L2.St} {H : Hp} {Q : VK} (h : rE c W (fun ρ => chainM f g (va ρ) (vb ρ) (vc ρ)) σ H Q) : tChain r r' (rB c W va) (rB c W vb) (rB c W vc) σ H Q := by
  obtain ⟨Ψ, ρ, S, F, so, eo, h⟩ := h
  refine ⟨Ψ, ρ, S, F, so, eo, h.bd.mono fun a S1 h1 Ψ1 x H1 e1 so1 ra => ?_⟩
  refine ⟨Ψ1, ρ, S1, F, so1, eo.ext e1, (h1.ext e1).bd.mono fun b S2 h2 Ψ2 y H2 e2 so2 rb => ?_⟩
  have ee := eo.ext (e1.trans e2)
  refine one_r hr so2 ((ra.mono e2.le).h ee) (rb.h ee) ((Post.ext e2 h2).bd) fun d Ψ3 v H3 q e3 so3 r3 => ?_
  have q2 := q.bd
  unfold asB at q2
  split at q2
  · rename_i t
    cases r3
    refine ⟨_, rfl, ?_⟩
    have e13 := (e1.trans e2).trans e3
    cases t with
    | true =>
      rw [if_pos rfl]
      have q6 : Post c (W σ) Ψ2 H2 (bd (vc ρ) (fun d => op2 g b d) S2) _ := q2
      refine ⟨Ψ3, ρ, S2, F, so3, eo.ext e13, ((Post.ext e3 q6).bd).mono fun d4 S4 q4 Ψ4 z H4 e4 so4 r4 => ?_⟩
      have e14 := e13.trans e4
      exact one_r hr' so4 ((rb.mono (e3.le.trans e4.le)).h (eo.ext e14)) (r4.h (eo.ext e14)) (Post.ext e4 q4) fun d5 Ψ5 v5 H5 q5 e5 so5 r5 => q5 Ψ5 v5 H5 (e14.trans e5) so5 r5
    | false =>
      rw [if_neg Bool.false_ne_true]
      exact q2 Ψ3 _ H3 e13 so3 (.bl _)
  · exact q2.elim
theorem se_chain {op op' : CmpOp} {r r' : R2} {f g : D → D → Sto → Option D} {d : Expr} (ho : OpR X (compareOp op) r) (ho' : OpR X (compareOp op') r') (hr : V2 c r f) (hr' : V2 c r' g) (ha : SB c X W a va) (hb : SB c X W b vb) (hd : SB c X W d vc)
    (h1 : lastMarks [op, op'] [b, d] = false := by with_unfolding_all rfl) :
    SE c X W (.Compare a [op, op'] [b, d] pos) (fun ρ => chainM f g (va ρ) (vb ρ) (vc ρ)) := ⟨ha.k, PE.imp (pe_chain ho ho' ha.p hb.p hd.p h1) fun σ H Q h => chain_r hr hr' h⟩
end
end Sm

/-! text: Sim5 -/
set_option Elab.async false
set_option linter.all false
set_option maxRecDepth 100000
set_option maxHeartbeats 1000000
namespace Sm
open PySem PySem.Spec PyProof.Rows L2

/-! ### places, slices -/
section
variable {c : Cf} {X : Cx} {W : L2.St → XK} {e a b : Expr} {es : List Expr} {pos p2 : Pos}
theorem se_ix {ma mb : Env → M D} (ha : SB c X W a ma) (hb : SB c X W b mb) (hs : PlainIx b := by exact fun _ _ => rfl) : SE c X W (.Subscript a b pos) (fun ρ => bd (ma ρ) fun x => bd (mb ρ) fun y => op2 ixD x y) :=
  ⟨ha.k, PE.imp (pe_ix ix_seq ha.p hb.p hs) fun σ H Q h => two_r (ha.k ▸ v2_ixD) h⟩
/-- a part of a slice -/
def rO (c : Cf) (W : L2.St → XK) (m : Env → M (Option Int)) : TO := fun σ H Q => ∃ Ψ ρ S F, StoOk c Ψ H S ∧ EnvOk c Ψ σ ρ H F ∧
  Post c (W σ) Ψ H (m ρ S) fun o S' => ∀ Ψ' H', Ext Ψ H Ψ' H' → StoOk c Ψ' H' S' → Q o H'
structure SO (c : Cf) (X : Cx) (W : L2.St → XK) (e : Option Expr) (m : Env → M (Option Int)) : Prop where
  k : X.K = c.K
  p : PO X e (rO c W m)
theorem PO.imp {X : Cx} {e : Option Expr} {t u : TO} (h : PO X e t) (k : ∀ σ H Q, u σ H Q → t σ H Q) : PO X e u := by
  obtain ⟨r⟩ := h
  exact ⟨fun pins s σ H Q I q => r pins s σ H Q I (k _ _ _ q)⟩
theorem so_none (k : X.K = c.K) : SO c X W none (fun _ => rt none) := ⟨k, PO.imp po_none fun σ H Q ⟨Ψ, ρ, S, F, so, eo, q⟩ => q Ψ H (Ext.refl _ _) so⟩
def asI (d : D) : M (Option Int) := fun S => match d with
  | .int i => .ok (some i) S
  | _ => .stuck
theorem so_some {m : Env → M D} (h : SB c X W e m) : SO c X W (some e) (fun ρ => bd (m ρ) asI) := by
  refine ⟨h.k, PO.imp (po_some h.p) fun σ H Q ⟨Ψ, ρ, S, F, so, eo, q⟩ => ⟨Ψ, ρ, S, F, so, eo, q.bd.mono fun d S1 q1 Ψ1 x H1 e1 so1 r1 => ?_⟩⟩
  unfold asI at q1
  split at q1
  · cases (r1.h (eo.ext e1)).int
    exact ⟨_, rfl, q1 Ψ1 H1 e1 so1⟩
  · exact q1.elim
def cutL {α : Type} (xs : List α) (lo hi : Option Int) : List α := (xs.drop (HT.sIx xs.length 0 lo)).take (HT.sIx xs.length xs.length hi - HT.sIx xs.length 0 lo)
theorem Reps.cut {Ψ : Wd} {vs : List V} {ds : List D} (r : Reps c Ψ vs ds) (lo hi : Option Int) : Reps c Ψ (cutV vs lo hi) (cutL ds lo hi) := by
  unfold cutV cutL
  rw [r.length]
  exact (r.drop _).take _
/-- t[lo:hi] of a tuple -/
def sliceT (d : D) (lo hi : Option Int) : M D := fun S => match d with
  | .tup ds => .ok (.tup (cutL ds lo hi)) S
  | _ => .stuck
/-- .. of a list -/
def sliceL (d : D) (lo hi : Option Int) : M (List D) := fun S => match d with
  | .lst ds => .ok (cutL ds lo hi) S
  | .scr ds => .ok (cutL ds lo hi) S
  | _ => .stuck
theorem whole_cut {α : Type} {xs : List α} {lo hi : Option Int} (h : HT.sIx xs.length 0 lo = 0 ∧ HT.sIx xs.length xs.length hi = xs.length) : cutL xs lo hi = xs := by
  unfold cutL
  rw [h.1, h.2]
  simp
theorem se_sliceT {ma : Env → M D} {ml mh : Env → M (Option Int)} {lo hi : Option Expr} (ha : SB c X W a ma) (hl : SO c X W lo ml) (hh : SO c X W hi mh) :
    SE c X W (.Subscript a (.Slice lo hi none p2) pos) (fun ρ => bd (ma ρ) fun x => bd (ml ρ) fun i => bd (mh ρ) fun j => sliceT x i j) := by
  refine ⟨ha.k, PE.imp (pe_slice sl_tupA ha.p hl.p hh.p) fun σ H Q ⟨Ψ, ρ, S, F, so, eo, q⟩ => ⟨Ψ, ρ, S, F, so, eo, q.bd.mono fun d S1 q1 Ψ1 x H1 e1 so1 r1 => ?_⟩⟩
  refine ⟨Ψ1, ρ, S1, F, so1, eo.ext e1, (q1.ext e1).bd.mono fun i S2 q2 Ψ2 H2 e2 so2 => ?_⟩
  refine ⟨Ψ2, ρ, S2, F, so2, eo.ext (e1.trans e2), (Post.ext e2 q2).bd.mono fun j S3 q3 Ψ3 H3 e3 so3 => ?_⟩
  have e13 := (e1.trans e2).trans e3
  have rh := (r1.mono (e2.le.trans e3.le)).h (eo.ext e13)
  unfold sliceT at q3
  split at q3
  · obtain ⟨a1, vs, rfl, h1, l, r⟩ := rh.tup so3
    refine ⟨a1, vs, rfl, by rw [ha.k]; exact h1, fun z => ?_, fun z p hp => ?_⟩
    · rw [r.length] at z
      refine q3 Ψ3 _ H3 e13 so3 ?_
      rw [whole_cut z]
      exact rh.rep fun _ z => by cases z
    · exact finT so3 (fun Ψ' v H' e4 so4 r4 => q3 Ψ' v H' (e13.trans e4) so4 r4) (Nat.le_trans (cutV_length _ _ _) l) (r.cut _ _) hp
  · exact q3.elim
theorem sn_slice {ma : Env → M D} {ml mh : Env → M (Option Int)} {lo hi : Option Expr} (ha : SB c X W a ma) (hl : SO c X W lo ml) (hh : SO c X W hi mh) :
    SN c X W (.Subscript a (.Slice lo hi none p2) pos) (fun ρ => bd (ma ρ) fun x => bd (ml ρ) fun i => bd (mh ρ) fun j => sliceL x i j) := by
  refine ⟨ha.k, PE.imp (pe_slice sl_list ha.p hl.p hh.p) fun σ H Q ⟨Ψ, ρ, S, F, so, eo, q⟩ => ⟨Ψ, ρ, S, F, so, eo, q.bd.mono fun d S1 q1 Ψ1 x H1 e1 so1 r1 => ?_⟩⟩
  refine ⟨Ψ1, ρ, S1, F, so1, eo.ext e1, (q1.ext e1).bd.mono fun i S2 q2 Ψ2 H2 e2 so2 => ?_⟩
  refine ⟨Ψ2, ρ, S2, F, so2, eo.ext (e1.trans e2), (Post.ext e2 q2).bd.mono fun j S3 q3 Ψ3 H3 e3 so3 => ?_⟩
  have e13 := (e1.trans e2).trans e3
  have rh := (r1.mono (e2.le.trans e3.le)).h (eo.ext e13)
  unfold sliceL at q3
  split at q3
  · obtain ⟨a1, vs, rfl, h1, l, r⟩ := rh.lst so3
    exact ⟨a1, vs, rfl, SqL.of h1, fun p hp => q3 Ψ3 p _ _ (e13.trans (Ext.lay hp)) (so3.lay hp) upd_same (Nat.le_trans (cutV_length _ _ _) l) (r.cut _ _) (so3.phiNone hp) (so3.footNone hp) (e13.dom p hp)⟩
  · obtain ⟨a1, vs, rfl, h1, l, r⟩ := rh.scr so3
    exact ⟨a1, vs, rfl, by rw [ha.k]; exact h1, fun p hp => q3 Ψ3 p _ _ (e13.trans (Ext.lay hp)) (so3.lay hp) upd_same (Nat.le_trans (cutV_length _ _ _) l) (r.cut _ _) (so3.phiNone hp) (so3.footNone hp) (e13.dom p hp)⟩
  · exact q3.elim

/-! ### calls of built-ins -/
def RepHs (c : Cf) (Ψ : Wd) (H : Hp) (vs : List V) (ds : List D) : Prop := vs.length = ds.length ∧ ∀ (i : Nat) v d, vs[i]? = some v → ds[i]? = some d → RepH c Ψ H v d
theorem RepBs.hs {Ψ : Wd} {σ : L2.St} {ρ : Env} {H : Hp} {F : Nat → List Addr} {vs : List V} {ds : List D} (e : EnvOk c Ψ σ ρ H F) (r : RepBs c Ψ σ ρ vs ds) : RepHs c Ψ H vs ds := by
  induction r with
  | nil => exact ⟨rfl, fun i v d h => by simp at h⟩
  | cons h t ih =>
    refine ⟨by rw [List.length_cons, List.length_cons, ih.1], fun i v d h1 h2 => ?_⟩
    cases i with
    | zero => simp at h1 h2; subst h1 h2; exact h.h e
    | succ i => exact ih.2 i v d (by simpa using h1) (by simpa using h2)
theorem RepHs.one {Ψ : Wd} {H : Hp} {vs : List V} {d : D} (r : RepHs c Ψ H vs [d]) : ∃ v, vs = [v] ∧ RepH c Ψ H v d := by
  obtain ⟨l, h⟩ := r
  match vs, l with
  | [v], _ => exact ⟨v, rfl, h 0 v d rfl rfl⟩
theorem RepHs.two {Ψ : Wd} {H : Hp} {vs : List V} {d d' : D} (r : RepHs c Ψ H vs [d, d']) : ∃ v v', vs = [v, v'] ∧ RepH c Ψ H v d ∧ RepH c Ψ H v' d' := by
  obtain ⟨l, h⟩ := r
  match vs, l with
  | [v, v'], _ => exact ⟨v, v', rfl, h 0 v d rfl rfl, h 1 v' d' rfl rfl⟩
def VC (c : Cf) (r : List V → Hp → VK → Prop) (f : List D → Sto → Option D) : Prop := ∀ Ψ H S xs ds d Q, StoOk c Ψ H S → RepHs c Ψ H xs ds → f ds S = some d →
  (∀ Ψ' v H', Ext Ψ H Ψ' H' → StoOk c Ψ' H' S → Rep c Ψ' v d → Q v H') → r xs H Q
def VCN (c : Cf) (r : List V → Hp → VK → Prop) (f : List D → Sto → Option (List D)) : Prop := ∀ Ψ H S xs ds d Q, StoOk c Ψ H S → RepHs c Ψ H xs ds → f ds S = some d →
  (∀ p vs, H p = none → vs.length ≤ LIM → Reps c Ψ vs d → Q (.ref p) (upd H p (.lst vs))) → r xs H Q
def opC (f : List D → Sto → Option D) (ds : List D) : M D := fun S => match f ds S with
  | some d => .ok d S
  | none => .stuck
def opCN (f : List D → Sto → Option (List D)) (ds : List D) : M (List D) := fun S => match f ds S with
  | some d => .ok d S
  | none => .stuck
theorem VC.or {r r' : List V → Hp → VK → Prop} {f f' : List D → Sto → Option D} (h : VC c r f) (h' : VC c r' f') : VC c (fun x H Q => r x H Q ∨ r' x H Q) (fun a S => match f a S with | some d => some d | none => f' a S) := by
  intro Ψ H S x a d Q s ra e q
  dsimp only at e
  cases z : f a S with
  | some d' => rw [z] at e; cases e; exact .inl (h Ψ H S x a _ Q s ra z q)
  | none => rw [z] at e; exact .inr (h' Ψ H S x a _ Q s ra e q)
theorem call_r {r : List V → Hp → VK → Prop} {f : List D → Sto → Option D} (hr : VC c r f) {m : Env → M (List D)} {σ : L2.St} {H : Hp} {Q : VK} (h : rE c W (fun ρ => bd (m ρ) fun x => opC f x) σ H Q) : tCB r (rAB c W m) σ H Q := by
  obtain ⟨Ψ, ρ, S, F, so, eo, h⟩ := h
  refine ⟨Ψ, ρ, S, F, so, eo, h.bd.mono fun ds S1 h1 Ψ1 vs H1 e1 so1 ra => ?_⟩
  unfold opC at h1
  split at h1
  · exact hr Ψ1 H1 S1 vs ds _ Q so1 (ra.hs (eo.ext e1)) (by assumption) fun Ψ' v H' e3 so3 r3 => h1 Ψ' v H' (e1.trans e3) so3 r3
  · exact h1.elim
theorem call_n {r : List V → Hp → VK → Prop} {f : List D → Sto → Option (List D)} (hr : VCN c r f) {m : Env → M (List D)} {σ : L2.St} {H : Hp} {Q : VK} (h : rN c W (fun ρ => bd (m ρ) fun x => opCN f x) σ H Q) : tCB r (rAB c W m) σ H Q := by
  obtain ⟨Ψ, ρ, S, F, so, eo, h⟩ := h
  refine ⟨Ψ, ρ, S, F, so, eo, h.bd.mono fun ds S1 h1 Ψ1 vs H1 e1 so1 ra => ?_⟩
  unfold opCN at h1
  split at h1
  · exact hr Ψ1 H1 S1 vs ds _ Q so1 (ra.hs (eo.ext e1)) (by assumption) fun p ws hp l3 r3 => h1 Ψ1 p ws _ (e1.trans (Ext.lay hp)) (so1.lay hp) upd_same l3 r3 (so1.phiNone hp) (so1.footNone hp) (e1.dom p hp)
  · exact h1.elim
variable {x : Str} {id T : String} {r : List V → Hp → VK → Prop} {p : Pos} {m : Env → M (List D)}
theorem se_callB {f : List D → Sto → Option D} (hc : CallR X (.builtin id) r) (hr : VC c r f) (ha : SAB c X W (e :: es) m) (hm : X.mg x = none) (hv : bootBuiltins x = some (.builtin id)) (hg : Gl X x := by rfl) (hn : x ≠ "__name__" := by decide) (hdb : (x == ("__debug__" : Str)) = false := by decide)
    (he : starEach (e :: es) X.env = (false, eval e X.env) :: starEach es X.env := by rfl) (hpl : (backTo pos (starEach es X.env)).any (·.1) = false := by rfl) :
    SE c X W (.Call (.Name x p) (e :: es) [] pos) (fun ρ => bd (m ρ) fun ds => opC f ds) := ⟨ha.k, PE.imp (pe_callB hc hg hm hv ha.p hn hdb he hpl) fun σ H Q h => call_r hr h⟩
theorem se_callTy {f : List D → Sto → Option D} (hc : CallR X (.type T) r) (hr : VC c r f) (ha : SAB c X W (e :: es) m) (hm : X.mg x = none) (hv : bootBuiltins x = some (.type T)) (hg : Gl X x := by rfl) (hn : x ≠ "__name__" := by decide) (hdb : (x == ("__debug__" : Str)) = false := by decide)
    (he : starEach (e :: es) X.env = (false, eval e X.env) :: starEach es X.env := by rfl) (hpl : (backTo pos (starEach es X.env)).any (·.1) = false := by rfl) :
    SE c X W (.Call (.Name x p) (e :: es) [] pos) (fun ρ => bd (m ρ) fun ds => opC f ds) := ⟨ha.k, PE.imp (pe_callTy hc hg hm hv ha.p hn hdb he hpl) fun σ H Q h => call_r hr h⟩
theorem sn_callTy {f : List D → Sto → Option (List D)} (hc : CallR X (.type T) r) (hr : VCN c r f) (ha : SAB c X W (e :: es) m) (hm : X.mg x = none) (hv : bootBuiltins x = some (.type T)) (hg : Gl X x := by rfl) (hn : x ≠ "__name__" := by decide) (hdb : (x == ("__debug__" : Str)) = false := by decide)
    (he : starEach (e :: es) X.env = (false, eval e X.env) :: starEach es X.env := by rfl) (hpl : (backTo pos (starEach es X.env)).any (·.1) = false := by rfl) :
    SN c X W (.Call (.Name x p) (e :: es) [] pos) (fun ρ => bd (m ρ) fun ds => opCN f ds) := ⟨ha.k, PE.imp (pe_callTy hc hg hm hv ha.p hn hdb he hpl) fun σ H Q h => call_n hr h⟩
end

section
variable {c : Cf}
/-- len -/
def lenD : List D → Sto → Option D := fun ds S => match ds with
  | [.lst xs] => some (.int xs.length)
  | [.tup xs] => some (.int xs.length)
  | [.scr xs] => some (.int xs.length)
  | [.str z] => if z.length ≤ LIM then some (.int z.length) else none
  | [.dct ks] => some (.int ks.length)
  | [.ref n] => match S[n]? with
    | some (.lst xs) => some (.int xs.length)
    | _ => none
  | _ => none
theorem call_lenA {X : Cx} : CallR X (.builtin "len") (fun xs H Q => (∃ p ys, xs = [.ref p] ∧ (SqL X.K H p ys ∨ SqT X.K H p ys) ∧ Q (.int ys.length) H) ∨ ((∃ z, xs = [.str z] ∧ z.length ≤ sizeLine ∧ Q (.int z.length) H) ∨ ∃ d kvs, xs = [.ref d] ∧ H d = some (.dK kvs) ∧ Q (.int kvs.length) H)) :=
  CallR.or call_len_seq (CallR.or call_len_str (by
    intro pins s σ H xs us Q I r h
    obtain ⟨d, kvs, rfl, hd, q⟩ := h
    exact call_lenD pins s σ H [.ref d] us Q I r ⟨d, kvs, rfl, hd, q⟩))
theorem vc_len : VC c (fun xs H Q => (∃ p ys, xs = [.ref p] ∧ (SqL c.K H p ys ∨ SqT c.K H p ys) ∧ Q (.int ys.length) H) ∨ ((∃ z, xs = [.str z] ∧ z.length ≤ sizeLine ∧ Q (.int z.length) H) ∨ ∃ d kvs, xs = [.ref d] ∧ H d = some (.dK kvs) ∧ Q (.int kvs.length) H)) lenD := by
  intro Ψ H S xs ds d Q s r e q
  unfold lenD at e
  split at e
  · cases e
    obtain ⟨v, rfl, r1⟩ := r.one
    obtain ⟨a, vs, rfl, h1, l2, r2⟩ := r1.lst s
    refine .inl ⟨a, vs, rfl, .inl (SqL.of h1), fin0 s q ?_⟩
    rw [r2.length]; exact .int _
  · cases e
    obtain ⟨v, rfl, r1⟩ := r.one
    obtain ⟨a, vs, rfl, h1, l2, r2⟩ := r1.tup s
    refine .inl ⟨a, vs, rfl, .inr h1, fin0 s q ?_⟩
    rw [r2.length]; exact .int _
  · cases e
    obtain ⟨v, rfl, r1⟩ := r.one
    obtain ⟨a, vs, rfl, h1, l2, r2⟩ := r1.scr s
    refine .inl ⟨a, vs, rfl, .inl h1, fin0 s q ?_⟩
    rw [r2.length]; exact .int _
  · split at e
    · cases e
      obtain ⟨v, rfl, r1⟩ := r.one
      cases r1.str
      exact .inr (.inl ⟨_, rfl, lim_of (by assumption), fin0 s q (.int _)⟩)
    · cases e
  · cases e
    obtain ⟨v, rfl, r1⟩ := r.one
    cases r1.rep (fun _ z => by cases z) with
    | dct h0 e0 r0 =>
      refine .inr (.inr ⟨_, _, rfl, s.phi _ _ h0, fin0 s q ?_⟩)
      have := congrArg List.length e0
      rw [List.length_map, List.length_map] at this
      rw [this]; exact .int _
  · split at e
    · cases e
      rename_i z
      obtain ⟨v, rfl, r1⟩ := r.one
      obtain ⟨p, h0, rfl, vs, h1, _, _, r2⟩ := r1.ref s z
      refine .inl ⟨p.1, vs, rfl, .inl (SqL.of h1), fin0 s q ?_⟩
      rw [r2.length]; exact .int _
    · cases e
  · cases e
/-- all, any of truth values -/
def bools : List D → Option (List Bool)
  | [] => some []
  | .bl b :: r => match bools r with
    | some bs => some (b :: bs)
    | none => none
  | _ => none
theorem Reps.bools {Ψ : Wd} : ∀ {vs : List V} {ds : List D} {bs : List Bool}, Reps c Ψ vs ds → Sm.bools ds = some bs → vs = bs.map V.bl
  | _, _, _, .nil, h => by simp only [Sm.bools, Option.some.injEq] at h; subst h; rfl
  | _, _, _, .cons h t, e => by
    cases h with
    | bl b =>
      unfold Sm.bools at e
      split at e
      · cases e
        rw [Reps.bools t (by assumption)]; rfl
      · cases e
    | _ => simp [Sm.bools] at e
def allD : List D → Sto → Option D := fun ds _ => match ds with
  | [.lst xs] => match bools xs with
    | some bs => some (.bl (bs.all id))
    | none => none
  | _ => none
def anyD : List D → Sto → Option D := fun ds _ => match ds with
  | [.lst xs] => match bools xs with
    | some bs => some (.bl (bs.any id))
    | none => none
  | _ => none
theorem vc_all : VC c (rAll c.K) allD := by
  intro Ψ H S xs ds d Q s r e q
  unfold allD at e
  split at e
  · split at e
    · cases e
      obtain ⟨v, rfl, r1⟩ := r.one
      obtain ⟨a, vs, rfl, h1, l2, r2⟩ := r1.lst s
      cases r2.bools (by assumption)
      exact ⟨a, _, rfl, SqL.of h1, fin0 s q (.bl _)⟩
    · cases e
  · cases e
theorem vc_any : VC c (rAny c.K) anyD := by
  intro Ψ H S xs ds d Q s r e q
  unfold anyD at e
  split at e
  · split at e
    · cases e
      obtain ⟨v, rfl, r1⟩ := r.one
      obtain ⟨a, vs, rfl, h1, l2, r2⟩ := r1.lst s
      cases r2.bools (by assumption)
      exact ⟨a, _, rfl, SqL.of h1, fin0 s q (.bl _)⟩
    · cases e
  · cases e
/-- tuple(x), list(x) -/
def tupleD : List D → Sto → Option D := fun ds _ => match ds with
  | [.lst xs] => some (.tup xs)
  | [.tup xs] => some (.tup xs)
  | _ => none
theorem vc_tuple : VC c (fun xs H Q => ∃ p ys, xs = [.ref p] ∧ ((SqL c.K H p ys ∧ ∀ l, H l = none → Q (.ref l) (upd H l (.tup ys))) ∨ (SqT c.K H p ys ∧ Q (.ref p) H))) tupleD := by
  intro Ψ H S xs ds d Q s r e q
  unfold tupleD at e
  split at e
  · cases e
    obtain ⟨v, rfl, r1⟩ := r.one
    obtain ⟨a, vs, rfl, h1, l2, r2⟩ := r1.lst s
    exact ⟨a, vs, rfl, .inl ⟨SqL.of h1, fun l hl => finT s q l2 r2 hl⟩⟩
  · cases e
    obtain ⟨v, rfl, r1⟩ := r.one
    obtain ⟨a, vs, rfl, h1, l2, r2⟩ := r1.tup s
    exact ⟨a, vs, rfl, .inr ⟨h1, fin0 s q (r1.rep fun _ z => by cases z)⟩⟩
  · cases e
def listD : List D → Sto → Option (List D) := fun ds _ => match ds with
  | [.lst xs] => some xs
  | [.tup xs] => some xs
  | _ => none
theorem vc_list : VCN c (fun xs H Q => ∃ p ys, xs = [.ref p] ∧ (SqL c.K H p ys ∨ SqT c.K H p ys) ∧ ∀ l, H l = none → Q (.ref l) (upd H l (.lst ys))) listD := by
  intro Ψ H S xs ds d Q s r e q
  unfold listD at e
  split at e
  · cases e
    obtain ⟨v, rfl, r1⟩ := r.one
    obtain ⟨a, vs, rfl, h1, l2, r2⟩ := r1.lst s
    exact ⟨a, vs, rfl, .inl (SqL.of h1), fun l hl => q l vs hl l2 r2⟩
  · cases e
    obtain ⟨v, rfl, r1⟩ := r.one
    obtain ⟨a, vs, rfl, h1, l2, r2⟩ := r1.tup s
    exact ⟨a, vs, rfl, .inr h1, fun l hl => q l vs hl l2 r2⟩
  · cases e
/-- int(x), abs(x), max, min of two -/
def intD : List D → Sto → Option D := fun ds _ => match ds with
  | [.int i] => some (.int i)
  | [.bl k] => some (.int (if k then 1 else 0))
  | _ => none
theorem vc_int : VC c (fun xs H Q => (∃ i, xs = [.int i] ∧ Q (.int i) H) ∨ ∃ k, xs = [.bl k] ∧ Q (.int (if k then 1 else 0)) H) intD := by
  intro Ψ H S xs ds d Q s r e q
  unfold intD at e
  split at e
  · cases e
    obtain ⟨v, rfl, r1⟩ := r.one
    cases r1.int
    exact .inl ⟨_, rfl, fin0 s q (.int _)⟩
  · cases e
    obtain ⟨v, rfl, r1⟩ := r.one
    cases r1.bl
    exact .inr ⟨_, rfl, fin0 s q (.int _)⟩
  · cases e
def absD : List D → Sto → Option D := fun ds _ => match ds with
  | [.int i] => some (.int (if i < 0 then -i else i))
  | _ => none
theorem vc_abs : VC c (fun xs H Q => ∃ i, xs = [.int i] ∧ Q (.int (if i < 0 then -i else i)) H) absD := by
  intro Ψ H S xs ds d Q s r e q
  unfold absD at e
  split at e
  · cases e
    obtain ⟨v, rfl, r1⟩ := r.one
    cases r1.int
    exact ⟨_, rfl, fin0 s q (.int _)⟩
  · cases e
def max2D : List D → Sto → Option D := fun ds _ => match ds with
  | [.int i, .int j] => some (.int (if j > i then j else i))
  | _ => none
def min2D : List D → Sto → Option D := fun ds _ => match ds with
  | [.int i, .int j] => some (.int (if j < i then j else i))
  | _ => none
theorem vc_max2 : VC c (fun xs H Q => ∃ i j, xs = [.int i, .int j] ∧ Q (.int (if j > i then j else i)) H) max2D := by
  intro Ψ H S xs ds d Q s r e q
  unfold max2D at e
  split at e
  · cases e
    obtain ⟨v, v', rfl, r1, r2⟩ := r.two
    cases r1.int
    cases r2.int
    exact ⟨_, _, rfl, fin0 s q (.int _)⟩
  · cases e
theorem vc_min2 : VC c (fun xs H Q => ∃ i j, xs = [.int i, .int j] ∧ Q (.int (if j < i then j else i)) H) min2D := by
  intro Ψ H S xs ds d Q s r e q
  unfold min2D at e
  split at e
  · cases e
    obtain ⟨v, v', rfl, r1, r2⟩ := r.two
    cases r1.int
    cases r2.int
    exact ⟨_, _, rfl, fin0 s q (.int _)⟩
  · cases e
end

/-! ### calls of the program's own defs -/
section
variable {c : Cf} {X : Cx} {W : L2.St → XK} {e a b o : Expr} {es : List Expr} {pos p2 p apos : Pos} {x : Str}
def callM (n : Nat) (m : List D → M D) (ds : List D) : M D := fun S => match Nat.decEq ds.length n with
  | .isTrue _ => m ds S
  | .isFalse _ => .stuck
def PromF (c : Cf) (n : Nat) (m : List D → M D) : Sp := fun vs H Q E => ∃ Ψ S ds, StoOk c Ψ H S ∧ Reps c Ψ vs ds ∧ ds.length = n ∧ Post c E Ψ H (m ds S) fun d S' => ∀ Ψ' v H', Ext Ψ H Ψ' H' → StoOk c Ψ' H' S' → Rep c Ψ' v d → Q v H'
/-- a def that keeps the promise m -/
structure Fn (c : Cf) (P : Program) (w : World) (mg : Str → Option Value) (base : Heap) (k : Nat) (f : Addr) (n : Nat) (m : List D → M D) : Prop where
  r : FnR P w c.K mg base (L2.CX P w) k f (PromF c n m)
  kp : PySem.W.keepIn c.K (.ref f) = true
theorem PromF.len {n : Nat} {m : List D → M D} {vs : List V} {H : Hp} {Q : VK} {E : XK} (h : PromF c n m vs H Q E) : vs.length = n := by
  obtain ⟨Ψ, S, ds, so, r, l, _⟩ := h
  rw [r.length, l]
theorem prom_of {n : Nat} {m : List D → M D} {Ψ : Wd} {H : Hp} {S : Sto} {vs : List V} {ds : List D} {E : XK} {R : D → Sto → Prop} {Q : VK} (so : StoOk c Ψ H S) (r : Reps c Ψ vs ds) (h : Post c E Ψ H (callM n m ds S) R)
    (k : ∀ d S' Ψ' v H', R d S' → Ext Ψ H Ψ' H' → StoOk c Ψ' H' S' → Rep c Ψ' v d → Q v H') : PromF c n m vs H Q E := by
  unfold callM at h
  split at h
  · exact ⟨Ψ, S, ds, so, r, by assumption, h.mono fun d S' q Ψ' v H' e s r => k d S' Ψ' v H' q e s r⟩
  · exact h.elim
/-- an exception of a callee reaches what is wanted here -/
def wx (W : L2.St → XK) : WX := fun cls d σ H => W σ cls d H
theorem pe_callFn {k n : Nat} {f : Addr} {m : List D → M D} {t : TA} (F : Fn c X.prog X.w X.mg X.base k f n m) (hk : X.K = c.K) (hr : Room k X.A) (hm : X.mg x = some (.ref f)) (tk : Takes X (wx W)) (ha : PA X (e :: es) t)
    (hg : Gl X x := by rfl) (hdb : (x == ("__debug__" : Str)) = false := by decide) (he : starEach (e :: es) X.env = (false, eval e X.env) :: starEach es X.env := by rfl) (hpl : (backTo pos (starEach es X.env)).any (·.1) = false := by rfl) :
    PE X (.Call (.Name x p) (e :: es) [] pos) (fun σ H Q => t σ H fun vs H1 => PromF c n m vs H1 Q (W σ)) := by
  refine ⟨fun pins s σ H Q I h => ?_⟩
  refine wpAny_Call_Name_kw (ld_glob I hg hm ?_ hdb)
  refine PySem.W.callWith_K (h₀ := X.base) I.ok.mod.kin (by rw [hk]; exact F.kp) (thn (ha.run pos pins s σ H _ I h) fun us s1 ⟨vs, H1, I1, r, q⟩ => ⟨I1.kIn, ?_⟩) he hpl
  refine wpAny_call (codeAny_mono (F.r X.A X.stack s1 H1 us vs Q (W σ) hr (hk ▸ I1.env0) r q) fun r s' hq => ?_)
  cases r with
  | error e => exact tk _ _ (XE.of_call I1 (fun _ _ _ h => h) hq)
  | ok fl =>
    cases fl with
    | ret u => exact I1.after hq
    | next => exact False.elim hq
    | brk => exact False.elim hq
    | cont => exact False.elim hq
theorem se_call {k n : Nat} {f : Addr} {m : List D → M D} {ma : Env → M (List D)} (F : Fn c X.prog X.w X.mg X.base k f n m) (hr : Room k X.A) (hm : X.mg x = some (.ref f)) (tk : Takes X (wx W)) (ha : SA c X W (e :: es) ma)
    (hg : Gl X x := by rfl) (hdb : (x == ("__debug__" : Str)) = false := by decide) (he : starEach (e :: es) X.env = (false, eval e X.env) :: starEach es X.env := by rfl) (hpl : (backTo pos (starEach es X.env)).any (·.1) = false := by rfl) :
    SE c X W (.Call (.Name x p) (e :: es) [] pos) (fun ρ => bd (ma ρ) fun ds => callM n m ds) := by
  refine ⟨ha.k, PE.imp (pe_callFn F ha.k hr hm tk ha.p hg hdb he hpl) fun σ H Q ⟨Ψ, ρ, S, F, so, eo, q⟩ => ⟨Ψ, ρ, S, F, so, eo, q.bd.mono fun ds S1 q1 Ψ1 vs H1 e1 so1 r1 => ?_⟩⟩
  exact prom_of so1 r1 (q1.ext e1) fun d S' Ψ' v H' q e2 s2 r2 => q Ψ' v H' (e1.trans e2) s2 r2
theorem se_call0 {k : Nat} {f : Addr} {m : List D → M D} (F : Fn c X.prog X.w X.mg X.base k f 0 m) (hk : X.K = c.K) (hr : Room k X.A) (hm : X.mg x = some (.ref f)) (tk : Takes X (wx W))
    (hg : Gl X x := by rfl) (hdb : (x == ("__debug__" : Str)) = false := by decide) : SE c X W (.Call (.Name x p) [] [] pos) (fun _ => callM 0 m []) := by
  refine ⟨hk, ⟨fun pins s σ H Q I h => ?_⟩⟩
  obtain ⟨Ψ, ρ, S, F', so, eo, q⟩ := h
  refine wpAny_Call_Name_kw (ld_glob I hg hm ?_ hdb)
  refine PySem.W.callWith_K0 I.kIn (by rw [hk]; exact F.kp) ?_
  refine wpAny_call (codeAny_mono (F.r X.A X.stack s H [] [] Q (W σ) hr (hk ▸ I.env0) .nil (prom_of so .nil q fun d S' Ψ' v H' q e2 s2 r2 => q Ψ' v H' e2 s2 r2)) fun r s' hq => ?_)
  cases r with
  | error e => exact tk _ _ (XE.of_call I (fun _ _ _ h => h) hq)
  | ok fl =>
    cases fl with
    | ret u => exact I.after hq
    | next => exact False.elim hq
    | brk => exact False.elim hq
    | cont => exact False.elim hq
end
end Sm

/-! text: Sim6 -/
set_option Elab.async false
set_option linter.all false
set_option maxRecDepth 100000
set_option maxHeartbeats 1000000
namespace Sm
open PySem PySem.Spec PyProof.Rows L2

/-! ### targets -/
inductive Tg where
  | one (i : Nat)
  | tup (is : List Nat)
def Tg.is : Tg → List Nat
  | .one i => [i]
  | .tup is => is
def setsS : L2.St → List Nat → List V → L2.St
  | σ, i :: is, v :: vs => setsS (σ.set i (some v)) is vs
  | σ, _, _ => σ
def setsE : Env → List Nat → List D → Env
  | ρ, i :: is, d :: ds => setsE (ρ.set i (.val d)) is ds
  | ρ, _, _ => ρ
def gTg (K : PySem.W.Frag) : Tg → TG
  | .one i => gName i
  | .tup is => fun v σ H Q => ∃ a xs, v = .ref a ∧ SqT K H a xs ∧ xs.length = is.length ∧ Q (setsS σ is xs) H
structure SG (X : Cx) (tg : Expr) (t : Tg) : Prop where
  p : PG X tg (gTg X.K t)
structure SGs (X : Cx) (es : List Expr) (is : List Nat) : Prop where
  p : PGs X es (fun vs σ H Q => vs.length = is.length ∧ Q (setsS σ is vs) H)
section
variable {X : Cx} {pos : Pos}
theorem sg_one {i : Nat} {x : Str} (hN : X.N.Nodup) (hi : X.N[i]? = some x := by rfl) (hx : Loc X.env.scope x := by first | exact Or.inl rfl | exact Or.inr rfl) (hf : X.fn x = true ∨ X.env.scope.names.lookup x = some .local := by first | exact .inl rfl | exact .inr rfl) : SG X (.Name x pos) (.one i) := ⟨pg_name hN hi hx hf⟩
theorem PGs.imp {es : List Expr} {t u : TGs} (h : PGs X es t) (k : ∀ vs σ H Q, u vs σ H Q → t vs σ H Q) : PGs X es u := ⟨fun pins s σ H vs us Q I r q => h.run pins s σ H vs us Q I r (k _ _ _ _ q)⟩
theorem PG.imp {e : Expr} {t u : TG} (h : PG X e t) (k : ∀ v σ H Q, u v σ H Q → t v σ H Q) : PG X e u := ⟨fun pins s σ H v uu Q I r q => h.run pins s σ H v uu Q I r (k _ _ _ _ q)⟩
theorem sgs_nil : SGs X [] [] := ⟨PGs.imp pgs_nil fun vs σ H Q ⟨l, q⟩ => by
  have e : vs = [] := List.eq_nil_of_length_eq_zero l
  subst e
  exact ⟨rfl, q⟩⟩
theorem sgs_cons {i : Nat} {is : List Nat} {x : Str} {es : List Expr} (t : SGs X es is) (hN : X.N.Nodup) (hi : X.N[i]? = some x := by rfl) (hx : Loc X.env.scope x := by first | exact Or.inl rfl | exact Or.inr rfl) (hf : X.fn x = true ∨ X.env.scope.names.lookup x = some .local := by first | exact .inl rfl | exact .inr rfl)
    (hs : (assignEach (.Name x pos :: es) X.env).map (·.2) = assign (.Name x pos) X.env :: (assignEach es X.env).map (·.2) := by rfl) : SGs X (.Name x pos :: es) (i :: is) := ⟨PGs.imp (pgs_cons (pg_name hN hi hx hf) t.p hs) fun vs σ H Q ⟨l, q⟩ => by
  cases vs with
  | nil => cases l
  | cons v r => exact ⟨v, r, rfl, by simpa using l, q⟩⟩
theorem sg_tup {es : List Expr} {k : Nat} {is : List Nat} (h : SGs X es is) (hc : X.calm = true := by rfl) (hn : (assignEach es X.env).length = is.length := by rfl) (hst : (assignEach es X.env).findIdx? (·.1) = none := by rfl) : SG X (.Tuple es k pos) (.tup is) :=
  ⟨PG.imp (pg_tup hc h.p hn hst) fun v σ H Q ⟨a, xs, e, hq, l, q⟩ => ⟨a, xs, e, hq, l, l, q⟩⟩
end
def bindD : Tg → D → Env → Option Env
  | .one i, d, ρ => some (ρ.set i (.val d))
  | .tup is, .tup ds, ρ => match Nat.decEq ds.length is.length with
    | .isTrue _ => some (setsE ρ is ds)
    | .isFalse _ => none
  | .tup _, _, _ => none
theorem wipe_set1 {σ : L2.St} {i : Nat} {x y : Option V} : ∀ vs : List Nat, (wipe (σ.set i x) vs).set i y = (wipe σ vs).set i y
  | [] => by unfold wipe; rw [List.set_set]
  | v :: vs => by
    unfold wipe
    by_cases e : v = i
    · subst e
      rw [List.set_set, List.set_set]
      exact wipe_set1 vs
    · rw [List.set_comm _ _ e, List.set_comm _ _ e, wipe_set1 vs]
theorem wipe_set {σ : L2.St} {i : Nat} {x : Option V} : ∀ {vs : List Nat}, i ∈ vs → wipe (σ.set i x) vs = wipe σ vs
  | [], h => by cases h
  | v :: vs, h => by
    unfold wipe
    by_cases e : v = i
    · subst e; exact wipe_set1 vs
    · rcases List.mem_cons.mp h with z | z
      · exact absurd z.symm e
      · rw [wipe_set z]
theorem wipe_sets {vs : List Nat} : ∀ {is : List Nat} {xs : List V} {σ : L2.St}, (∀ i ∈ is, i ∈ vs) → wipe (setsS σ is xs) vs = wipe σ vs
  | [], _, _, _ => rfl
  | i :: is, [], _, _ => rfl
  | i :: is, x :: xs, σ, h => by
    show wipe (setsS (σ.set i (some x)) is xs) vs = _
    rw [wipe_sets (fun j hj => h j (List.mem_cons_of_mem _ hj)), wipe_set (h i List.mem_cons_self)]
def Keep0 (σ : L2.St) (ρ : Env) (σ' : L2.St) (ρ' : Env) : Prop := ∀ k fs, ρ'[0]? = some (.ownI k fs) → ρ[0]? = some (.ownI k fs) ∧ σ'[0]? = σ[0]?
def off (F : Nat → List Addr) (i : Nat) : Nat → List Addr := fun j => if j = i then [] else F j
theorem off_sub {F : Nat → List Addr} {i j : Nat} {b : Addr} (h : b ∈ off F i j) : b ∈ F j ∧ j ≠ i := by
  unfold off at h
  split at h
  · cases h
  · exact ⟨h, by assumption⟩
theorem off_ne {F : Nat → List Addr} {i j : Nat} (h : j ≠ i) : off F i j = F j := if_neg h
theorem off_eq {F : Nat → List Addr} {i : Nat} : off F i i = [] := if_pos rfl
section
variable {c : Cf} {Ψ : Wd} {H : Hp} {S : Sto} {σ : L2.St} {ρ : Env} {F : Nat → List Addr}
theorem EnvOk.setV (e : EnvOk c Ψ σ ρ H F) (i : Nat) {v : V} {d : D} (r : Rep c Ψ v d) : EnvOk c Ψ (σ.set i (some v)) (ρ.set i (.val d)) H (off F i) := by
  refine ⟨by rw [List.length_set, List.length_set]; exact e.len, fun j s hs => ?_, fun j hj => ?_, fun j b hb => e.priv j b (off_sub hb).1, fun a b x ne hx hy => e.sep a b x ne (off_sub hx).1 (off_sub hy).1⟩
  · by_cases z : j = i
    · subst z
      have hl : j < ρ.length := by
        have := (List.getElem?_eq_some_iff.mp hs).1
        rwa [List.length_set] at this
      rw [List.getElem?_set_self hl] at hs
      cases hs
      rw [off_eq, List.getElem?_set_self (by rw [e.len]; exact hl)]
      exact ⟨rfl, v, rfl, r⟩
    · rw [List.getElem?_set_ne (Ne.symm z)] at hs
      rw [off_ne z, List.getElem?_set_ne (Ne.symm z)]
      exact e.slot j s hs
  · by_cases z : j = i
    · subst z; exact off_eq
    · rw [List.getElem?_set_ne (Ne.symm z)] at hj
      rw [off_ne z]; exact e.out j hj
theorem EnvOk.wipe1 (e : EnvOk c Ψ σ ρ H F) (i : Nat) : EnvOk c Ψ (σ.set i none) (ρ.set i .no) H (off F i) := by
  refine ⟨by rw [List.length_set, List.length_set]; exact e.len, fun j s hs => ?_, fun j hj => ?_, fun j b hb => e.priv j b (off_sub hb).1, fun a b x ne hx hy => e.sep a b x ne (off_sub hx).1 (off_sub hy).1⟩
  · by_cases z : j = i
    · subst z
      have hl : j < ρ.length := by
        have := (List.getElem?_eq_some_iff.mp hs).1
        rwa [List.length_set] at this
      rw [List.getElem?_set_self hl] at hs
      cases hs
      exact off_eq
    · rw [List.getElem?_set_ne (Ne.symm z)] at hs
      rw [off_ne z, List.getElem?_set_ne (Ne.symm z)]
      exact e.slot j s hs
  · by_cases z : j = i
    · subst z; exact off_eq
    · rw [List.getElem?_set_ne (Ne.symm z)] at hj
      rw [off_ne z]; exact e.out j hj
def wipeE (ρ : Env) : List Nat → Env
  | [] => ρ
  | v :: vs => (wipeE ρ vs).set v .no
theorem EnvOk.wipes (e : EnvOk c Ψ σ ρ H F) : ∀ vs : List Nat, ∃ F', EnvOk c Ψ (wipe σ vs) (wipeE ρ vs) H F' ∧ ∀ i b, b ∈ F' i → b ∈ F i
  | [] => ⟨F, e, fun _ _ h => h⟩
  | v :: vs => by
    obtain ⟨F', e', s⟩ := EnvOk.wipes e vs
    exact ⟨off F' v, e'.wipe1 v, fun i b h => s i b (off_sub h).1⟩
theorem keep0_set {i : Nat} {x : Option V} {d : D} : Keep0 σ ρ (σ.set i x) (ρ.set i (.val d)) := fun k fs h => by
  by_cases z : i = 0
  · subst z
    by_cases hl : 0 < ρ.length
    · rw [List.getElem?_set_self hl] at h
      cases h
    · rw [List.getElem?_eq_none (by rw [List.length_set]; omega)] at h
      cases h
  · rw [List.getElem?_set_ne z] at h
    exact ⟨h, List.getElem?_set_ne z⟩
theorem Keep0.trans {σ1 σ2 : L2.St} {ρ1 ρ2 : Env} (a : Keep0 σ ρ σ1 ρ1) (b : Keep0 σ1 ρ1 σ2 ρ2) : Keep0 σ ρ σ2 ρ2 := fun k fs h => by
  obtain ⟨h1, h2⟩ := b k fs h
  obtain ⟨h3, h4⟩ := a k fs h1
  exact ⟨h3, h2.trans h4⟩
theorem EnvOk.sets : ∀ {is : List Nat} {vs : List V} {ds : List D} {σ : L2.St} {ρ : Env} {F : Nat → List Addr}, EnvOk c Ψ σ ρ H F → Reps c Ψ vs ds →
    ∃ F', EnvOk c Ψ (setsS σ is vs) (setsE ρ is ds) H F' ∧ (∀ i b, b ∈ F' i → b ∈ F i) ∧ Keep0 σ ρ (setsS σ is vs) (setsE ρ is ds)
  | [], _, _, _, _, F, e, _ => ⟨F, e, fun _ _ h => h, fun _ _ h => ⟨h, rfl⟩⟩
  | _ :: _, _, _, _, _, F, e, .nil => ⟨F, e, fun _ _ h => h, fun _ _ h => ⟨h, rfl⟩⟩
  | i :: is, _, _, _, _, F, e, .cons h t => by
    obtain ⟨F', e', s, k⟩ := EnvOk.sets (is := is) (e.setV i h) t
    exact ⟨F', e', fun j b hb => (off_sub (s j b hb)).1, Keep0.trans keep0_set k⟩
theorem bind_ok {t : Tg} {v : V} {d : D} {ρ' : Env} {Q : L2.St → Hp → Prop} (so : StoOk c Ψ H S) (eo : EnvOk c Ψ σ ρ H F) (r : Rep c Ψ v d) (h : bindD t d ρ = some ρ')
    (q : ∀ σ' F', EnvOk c Ψ σ' ρ' H F' → (∀ i b, b ∈ F' i → b ∈ F i) → (∀ vs, (∀ i ∈ t.is, i ∈ vs) → wipe σ' vs = wipe σ vs) → Keep0 σ ρ σ' ρ' → Q σ' H) : gTg c.K t v σ H Q := by
  cases t with
  | one i =>
    unfold bindD at h
    cases h
    exact q _ _ (eo.setV i r) (fun j b hb => (off_sub hb).1) (fun vs hv => wipe_set (hv i (by simp [Tg.is]))) keep0_set
  | tup is =>
    cases d with
    | tup ds =>
      have h' : (match Nat.decEq ds.length is.length with
        | .isTrue _ => some (setsE ρ is ds)
        | .isFalse _ => none) = some ρ' := h
      split at h'
      · rename_i l _
        cases h'
        cases r with
        | tup h0 l0 r0 =>
          obtain ⟨F', e', s, k⟩ := EnvOk.sets (is := is) eo r0
          exact ⟨_, _, rfl, sqT_phi so h0, by rw [r0.length]; exact l, q _ _ e' s (fun vs hv => wipe_sets hv) k⟩
      · cases h'
    | _ => cases h
end

/-! ### what is walked -/
def ItOk (c : Cf) (Rl : Wd → Hp → Prop) (J : It) (ds : List D) : Prop := ds.length ≤ LIM ∧ ∃ (G : Hp → Prop) (Y : Nat → Hp → V → Hp → Prop), Walk J ds.length G Y ∧ (∀ Ψ S H, Rl Ψ H → StoOk c Ψ H S → G H) ∧
  ∀ i H x H' Ψ S d, Rl Ψ H → StoOk c Ψ H S → ds[i]? = some d → Y i H x H' → ∃ Ψ', Ext Ψ H Ψ' H' ∧ StoOk c Ψ' H' S ∧ Rep c Ψ' x d
def rI (c : Cf) (W : L2.St → XK) (m : Env → M (List D)) : TI := fun σ H R => ∃ Ψ ρ S F, StoOk c Ψ H S ∧ EnvOk c Ψ σ ρ H F ∧
  Post c (W σ) Ψ H (m ρ S) fun ds S' => ∀ Ψ' J H', Ext Ψ H Ψ' H' → StoOk c Ψ' H' S' → ItOk c (fun Ψ2 _ => Le Ψ' Ψ2) J ds → R J H'
def rIC (c : Cf) (W : L2.St → XK) (m : Env → M (List D)) : TI := fun σ H R => ∃ Ψ ρ S F, StoOk c Ψ H S ∧ EnvOk c Ψ σ ρ H F ∧
  Post c (W σ) Ψ H (m ρ S) fun ds S' => ∀ Ψ' J H', Ext Ψ H Ψ' H' → StoOk c Ψ' H' S' → ItOk c (fun Ψ2 H2 => Ext Ψ' H' Ψ2 H2) J ds → R J H'
structure SI (c : Cf) (X : Cx) (W : L2.St → XK) (tg e : Expr) (m : Env → M (List D)) : Prop where
  k : X.K = c.K
  p : PI X tg e (rI c W m)
structure SIC (c : Cf) (X : Cx) (W : L2.St → XK) (tg e : Expr) (m : Env → M (List D)) : Prop where
  k : X.K = c.K
  p : PI X tg e (rIC c W m)
theorem PI.imp {X : Cx} {tg e : Expr} {t u : TI} (h : PI X tg e t) (k : ∀ σ H Q, u σ H Q → t σ H Q) : PI X tg e u := ⟨fun pins s σ H Q I q => h.run pins s σ H Q I (k _ _ _ q)⟩
theorem ItOk.imp {c : Cf} {R R' : Wd → Hp → Prop} {J : It} {ds : List D} (h : ItOk c R J ds) (k : ∀ Ψ H, R' Ψ H → R Ψ H) : ItOk c R' J ds := by
  obtain ⟨l, G, Y, w, g, y⟩ := h
  exact ⟨l, G, Y, w, fun Ψ S H r => g Ψ S H (k _ _ r), fun i H x H' Ψ S d r => y i H x H' Ψ S d (k _ _ r)⟩
theorem SI.sic {c : Cf} {X : Cx} {W : L2.St → XK} {tg e : Expr} {m : Env → M (List D)} (h : SI c X W tg e m) : SIC c X W tg e m :=
  ⟨h.k, PI.imp h.p fun σ H R ⟨Ψ, ρ, S, F, so, eo, q⟩ => ⟨Ψ, ρ, S, F, so, eo, q.mono fun ds S' k Ψ' J H' x s i => k Ψ' J H' x s (i.imp fun _ _ z => z.le)⟩⟩
section
variable {c : Cf} {X : Cx} {W : L2.St → XK} {tg e a b : Expr} {pos p : Pos}
/-- the items of a list, a tuple -/
def seqM (d : D) : M (List D) := fun S => match d with
  | .lst ds => .ok ds S
  | .tup ds => .ok ds S
  | .scr ds => .ok ds S
  | _ => .stuck
theorem itok_list {Ψ : Wd} {a : Addr} {vs : List V} {ds : List D} (h : SqL c.K Ψ.fz a vs) (l : vs.length ≤ LIM) (r : Reps c Ψ vs ds) : ItOk c (fun Ψ2 _ => Le Ψ Ψ2) (Itl c.K a) ds := by
  refine ⟨by rw [← r.length]; exact l, fun H => SqL c.K H a vs, YAt vs, by rw [← r.length]; exact walk_list, fun Ψ2 S2 H2 l s => sqL_phi s (l.sqL h), fun i H2 x H3 Ψ2 S2 d l s hd y => ?_⟩
  · obtain ⟨e, hx⟩ := y
    subst e
    obtain ⟨v, hv, rv⟩ := r.get hd
    rw [hx] at hv; cases hv
    exact ⟨Ψ2, Ext.refl _ _, s, rv.mono l⟩
theorem itok_tup {Ψ : Wd} {a : Addr} {vs : List V} {ds : List D} (h : SqT c.K Ψ.fz a vs) (l : vs.length ≤ LIM) (r : Reps c Ψ vs ds) : ItOk c (fun Ψ2 _ => Le Ψ Ψ2) (Itt c.K a) ds := by
  refine ⟨by rw [← r.length]; exact l, fun H => SqT c.K H a vs, YAt vs, by rw [← r.length]; exact walk_tup, fun Ψ2 S2 H2 l s => sqT_phi s (l.sqT h), fun i H2 x H3 Ψ2 S2 d l s hd y => ?_⟩
  obtain ⟨e, hx⟩ := y
  subst e
  obtain ⟨v, hv, rv⟩ := r.get hd
  rw [hx] at hv; cases hv
  exact ⟨Ψ2, Ext.refl _ _, s, rv.mono l⟩
theorem si_seq {m : Env → M D} (h : SE c X W e m) : SI c X W tg e (fun ρ => bd (m ρ) seqM) := by
  refine ⟨h.k, ⟨fun pins s σ H R I q => ?_⟩⟩
  obtain ⟨Ψ, ρ, S, F, so, eo, q⟩ := q
  have q' := q.bd
  cases z : m ρ S with
  | stuck => rw [z] at q'; exact q'.elim
  | err k fs S1 =>
    rw [z] at q'
    exact (pi_list (tg := tg) h.p).run pins s σ H R I ⟨Ψ, ρ, S, F, so, eo, by rw [z]; exact q'⟩
  | ok d S1 =>
    rw [z] at q'
    have q2 : Post c (W σ) Ψ H (seqM d S1) _ := q'
    unfold seqM at q2
    split at q2
    · refine (pi_list (tg := tg) h.p).run pins s σ H R I ⟨Ψ, ρ, S, F, so, eo, by
        rw [z]
        intro Ψ1 v H1 e1 so1 r1
        cases r1 with
        | lst h1 l1 r1 => exact ⟨_, rfl, ⟨_, SqL.of (so1.phi _ _ h1)⟩, q2 Ψ1 _ H1 e1 so1 (h.k ▸ itok_list (.inl (.inl h1)) l1 r1)⟩⟩
    · refine (pi_tup (tg := tg) h.p).run pins s σ H R I ⟨Ψ, ρ, S, F, so, eo, by
        rw [z]
        intro Ψ1 v H1 e1 so1 r1
        cases r1 with
        | tup h1 l1 r1 => exact ⟨_, rfl, ⟨_, by rw [h.k]; exact sqT_phi so1 h1⟩, q2 Ψ1 _ H1 e1 so1 (h.k ▸ itok_tup h1 l1 r1)⟩⟩
    · refine (pi_list (tg := tg) h.p).run pins s σ H R I ⟨Ψ, ρ, S, F, so, eo, by
        rw [z]
        intro Ψ1 v H1 e1 so1 r1
        cases r1 with
        | scr h1 l1 r1 => exact ⟨_, rfl, ⟨_, by rw [h.k]; exact sqL_phi so1 h1⟩, q2 Ψ1 _ H1 e1 so1 (h.k ▸ itok_list h1 l1 r1)⟩⟩
    · exact q2.elim
/-- a comprehension may walk the frame's own list -/
theorem sic_own {m : Env → M D} (h : SB c X W e m) : SIC c X W tg e (fun ρ => bd (m ρ) fun d => fun S => match d with
    | .lst ds => .ok ds S
    | _ => .stuck) := by
  refine ⟨h.k, PI.imp (pi_list (tg := tg) h.p) fun σ H R ⟨Ψ, ρ, S, F, so, eo, q⟩ => ⟨Ψ, ρ, S, F, so, eo, q.bd.mono fun d S1 q1 Ψ1 x H1 e1 so1 r1 => ?_⟩⟩
  split at q1
  · rename_i ds
    rcases r1 with r1 | ⟨i, ds', ed, hi, hs⟩
    · cases r1 with
      | lst h1 l1 r1 => exact ⟨_, rfl, ⟨_, SqL.of (so1.phi _ _ h1)⟩, q1 Ψ1 _ H1 e1 so1 (h.k ▸ (itok_list (.inl (.inl h1)) l1 r1).imp fun _ _ z => z.le)⟩
    · cases ed
      have eo1 := eo.ext e1
      obtain ⟨a, vs, hF, z, h3, l, h4⟩ := eo1.slot i _ hi
      rw [hs] at z
      cases z
      refine ⟨a, rfl, ⟨_, SqL.of h3⟩, q1 Ψ1 _ H1 e1 so1 ?_⟩
      have pr := eo1.priv i a (by rw [hF]; simp)
      refine ⟨by rw [← h4.length]; exact l, fun H => SqL c.K H a vs, YAt vs, by rw [h.k, ← h4.length]; exact walk_list, fun Ψ2 S2 H2 x s => SqL.of (x.keep _ _ h3 pr.2.1), fun j H2 x H3 Ψ2 S2 d l s hd y => ?_⟩
      obtain ⟨e, hx⟩ := y
      subst e
      obtain ⟨v, hv, rv⟩ := h4.get hd
      rw [hx] at hv; cases hv
      exact ⟨Ψ2, Ext.refl _ _, s, rv.mono l.le⟩
  · exact q1.elim
/-- range -/
def rng (lo : Int) (n : Nat) : List D := (List.range n).map fun (i : Nat) => D.int (lo + i)
theorem rng_get {lo : Int} {n i : Nat} {d : D} (h : (rng lo n)[i]? = some d) : d = .int (lo + i) := by
  unfold rng at h
  rw [List.getElem?_map] at h
  cases e : (List.range n)[i]? with
  | none => rw [e] at h; cases h
  | some j =>
    rw [e] at h
    cases h
    have := List.getElem?_eq_some_iff.mp e
    obtain ⟨_, z⟩ := this
    rw [List.getElem_range] at z
    rw [z]
theorem rng_len {lo : Int} {n : Nat} : (rng lo n).length = n := by unfold rng; rw [List.length_map, List.length_range]
theorem itok_rng {Rl : Wd → Hp → Prop} {lo : Int} {n : Nat} (hn : n ≤ LIM) : ItOk c Rl (Itr lo n) (rng lo n) := by
  refine ⟨by rw [rng_len]; exact hn, fun _ => True, YFn fun i => .int (lo + i), by rw [rng_len]; exact walk_range, fun _ _ _ _ _ => trivial, fun i H2 x H3 Ψ2 S2 d l s hd y => ?_⟩
  obtain ⟨e, hx⟩ := y
  subst e hx
  rw [rng_get hd]
  exact ⟨Ψ2, Ext.refl _ _, s, .int _⟩
def inI (i : Int) : Bool := decide (-1000 ≤ i) && decide (i ≤ 99000)
theorem inI_b {i : Int} (h : inI i = true) : -(2 ^ 62) ≤ i ∧ i < 2 ^ 62 := by
  unfold inI at h
  simp only [Bool.and_eq_true, decide_eq_true_eq] at h
  omega
theorem inI_n {i j : Int} (h : inI i = true) (h' : inI j = true) : (j - i).toNat ≤ LIM := by
  unfold inI at h h'
  simp only [Bool.and_eq_true, decide_eq_true_eq] at h h'
  show _ ≤ 100000
  omega
theorem inI_m {j : Int} (h' : inI j = true) : j.toNat ≤ LIM := by
  unfold inI at h'
  simp only [Bool.and_eq_true, decide_eq_true_eq] at h'
  show _ ≤ 100000
  omega
theorem si_range1 {m : Env → M (List D)} (h : SA c X W [a] m) (hm : X.mg "range" = none) (hg : Gl X "range" := by rfl) (hs : starEach [a] X.env = [(false, eval a X.env)] := by rfl) : SI c X W tg (.Call (.Name "range" p) [a] [] pos) (fun ρ => bd (m ρ) fun ds => fun S => match ds with
    | [.int j] => if inI j = true then .ok (rng 0 j.toNat) S else .stuck
    | _ => .stuck) := by
  refine ⟨h.k, PI.imp (pi_range1 (tg := tg) hg hm h.p hs) fun σ H R ⟨Ψ, ρ, S, F, so, eo, q⟩ => ⟨Ψ, ρ, S, F, so, eo, q.bd.mono fun ds S1 q1 Ψ1 vs H1 e1 so1 r1 => ?_⟩⟩
  split at q1
  · split at q1
    · cases r1 with
      | cons h1 t1 =>
        cases h1
        cases t1
        have b := inI_b (by assumption)
        exact ⟨_, rfl, b.1, b.2, q1 Ψ1 _ H1 e1 so1 (itok_rng (inI_m (by assumption)))⟩
    · exact q1.elim
  · exact q1.elim
theorem si_range2 {m : Env → M (List D)} (h : SA c X W [a, b] m) (hm : X.mg "range" = none) (hg : Gl X "range" := by rfl) (hs : starEach [a, b] X.env = [(false, eval a X.env), (false, eval b X.env)] := by rfl) (hs2 : starEach [b] X.env = [(false, eval b X.env)] := by rfl) :
    SI c X W tg (.Call (.Name "range" p) [a, b] [] pos) (fun ρ => bd (m ρ) fun ds => fun S => match ds with
    | [.int i, .int j] => if (inI i && inI j) = true then .ok (rng i (j - i).toNat) S else .stuck
    | _ => .stuck) := by
  refine ⟨h.k, PI.imp (pi_range2 (tg := tg) hg hm h.p hs hs2) fun σ H R ⟨Ψ, ρ, S, F, so, eo, q⟩ => ⟨Ψ, ρ, S, F, so, eo, q.bd.mono fun ds S1 q1 Ψ1 vs H1 e1 so1 r1 => ?_⟩⟩
  split at q1
  · split at q1
    · rename_i z
      rw [Bool.and_eq_true] at z
      cases r1 with
      | cons h1 t1 =>
        cases h1
        cases t1 with
        | cons h2 t2 =>
          cases h2
          cases t2
          have b := inI_b z.1
          have b' := inI_b z.2
          exact ⟨_, _, rfl, ⟨b.1, b.2, b'.1, b'.2⟩, q1 Ψ1 _ H1 e1 so1 (itok_rng (inI_n z.1 z.2))⟩
    · exact q1.elim
  · exact q1.elim
/-- range by steps of a written size -/
def rngC (lo k : Int) (n : Nat) : List D := (List.range n).map fun (i : Nat) => D.int (lo + (i : Nat) * k)
theorem rngC_get {lo k : Int} {n i : Nat} {d : D} (h : (rngC lo k n)[i]? = some d) : d = .int (lo + (i : Nat) * k) := by
  unfold rngC at h
  rw [List.getElem?_map] at h
  cases e : (List.range n)[i]? with
  | none => rw [e] at h; cases h
  | some j =>
    rw [e] at h
    cases h
    have := List.getElem?_eq_some_iff.mp e
    obtain ⟨_, z⟩ := this
    rw [List.getElem_range] at z
    rw [z]
theorem rngC_len {lo k : Int} {n : Nat} : (rngC lo k n).length = n := by unfold rngC; rw [List.length_map, List.length_range]
theorem itok_rngC {Rl : Wd → Hp → Prop} {lo k : Int} {n : Nat} (hn : n ≤ LIM) : ItOk c Rl (Itc lo k n) (rngC lo k n) := by
  refine ⟨by rw [rngC_len]; exact hn, fun _ => True, YFn fun i => .int (lo + (i : Nat) * k), by rw [rngC_len]; exact walk_rangeC, fun _ _ _ _ _ => trivial, fun i H2 x H3 Ψ2 S2 d l s hd y => ?_⟩
  obtain ⟨e, hx⟩ := y
  subst e hx
  rw [rngC_get hd]
  exact ⟨Ψ2, Ext.refl _ _, s, .int _⟩
def rgCB (i j k : Int) (n : Nat) : Bool := decide (k ≠ 0) && decide (k.natAbs < 1073741824) && Builtin.Range.small i j k && decide (Builtin.Range.rangeSize i j k = n) && decide (n ≤ 100000)
theorem si_range3 {d : Expr} {m : Env → M (List D)} (h : SA c X W [a, b, d] m) (hm : X.mg "range" = none) (hg : Gl X "range" := by rfl) (hs : starEach [a, b, d] X.env = (false, eval a X.env) :: starEach [b, d] X.env := by rfl) (hpl : (backTo pos (starEach [b, d] X.env)).any (·.1) = false := by rfl) :
    SI c X W tg (.Call (.Name "range" p) [a, b, d] [] pos) (fun ρ => bd (m ρ) fun ds => fun S => match ds with
    | [.int i, .int j, .int k] => if rgCB i j k (Builtin.Range.rangeSize i j k).toNat = true then .ok (rngC i k (Builtin.Range.rangeSize i j k).toNat) S else .stuck
    | _ => .stuck) := by
  refine ⟨h.k, PI.imp (pi_range3 (tg := tg) hg hm h.p hs hpl) fun σ H R ⟨Ψ, ρ, S, F, so, eo, q⟩ => ⟨Ψ, ρ, S, F, so, eo, q.bd.mono fun ds S1 q1 Ψ1 vs H1 e1 so1 r1 => ?_⟩⟩
  split at q1
  · split at q1
    · rename_i z
      unfold rgCB at z
      simp only [Bool.and_eq_true, decide_eq_true_eq] at z
      cases r1 with
      | cons h1 t1 =>
        cases h1
        cases t1 with
        | cons h2 t2 =>
          cases h2
          cases t2 with
          | cons h3 t3 =>
            cases h3
            cases t3
            exact ⟨_, _, _, _, rfl, ⟨z.1.1.1.1, z.1.1.1.2, z.1.1.2, z.1.2⟩, q1 Ψ1 _ H1 e1 so1 (itok_rngC z.2)⟩
    · exact q1.elim
  · exact q1.elim
end
end Sm

/-! text: Sim7 -/
set_option Elab.async false
set_option linter.all false
set_option maxRecDepth 100000
set_option maxHeartbeats 1000000
namespace Sm
open PySem PySem.Spec PyProof.Rows L2

theorem Ext.upd {Ψ Ψ' : Wd} {H H' : Hp} {a : Addr} {o : HO} (x : Ext Ψ H Ψ' H') (n : H a = none) : Ext Ψ H Ψ' (L2.upd H' a o) where
  le := x.le
  dom := fun b h => by
    by_cases e : b = a
    · subst e; exact n
    · rw [upd_ne e] at h; exact x.dom b h
  nphi := x.nphi
  nmu := x.nmu
  keep := fun b u h f => by
    rw [upd_ne (ne_of_none h n)]
    exact x.keep b u h f
theorem StoOk.updF {c : Cf} {Ψ : Wd} {H : Hp} {S : Sto} {a : Addr} {o : HO} (s : StoOk c Ψ H S) (p : Ψ.fz a = none) (f : ¬ Foot Ψ a) : StoOk c Ψ (L2.upd H a o) S where
  phi := fun b u h => by
    rw [upd_ne (ne_of_none h p)]
    exact s.phi b u h
  off := s.off
  nd := s.nd
  len := s.len
  obj := fun n u h => by
    obtain ⟨q, h1, h2⟩ := s.obj n u h
    have n1 : q.1 ≠ a := fun z => f ⟨n, q, h1, .inl z.symm⟩
    have n2 : q.2 ≠ a := fun z => f ⟨n, q, h1, .inr z.symm⟩
    refine ⟨q, h1, ?_⟩
    cases u with
    | lst ds => obtain ⟨vs, x1, x2, x3, x4⟩ := h2; exact ⟨vs, by rw [upd_ne n1]; exact x1, x2, x3, x4⟩
    | ins k fs =>
      obtain ⟨vs, x1, x2, x3, x4⟩ := h2
      refine ⟨vs, Slt.keep x1 fun b hb u hu => ?_, x2, by rw [upd_ne n2]; exact x3, x4⟩
      rcases hb with rfl | rfl
      · rw [upd_ne n1]; exact hu
      · rw [upd_ne n2]; exact hu
/-- what is new at D stays unknown -/
theorem Ext.free {Ψ Ψ' : Wd} {H H' : Hp} {a : Addr} (x : Ext Ψ H Ψ' H') (p : Ψ.fz a = none) (f : ¬ Foot Ψ a) (h : H a ≠ none) : Ψ'.fz a = none ∧ ¬ Foot Ψ' a := by
  refine ⟨?_, fun g => ?_⟩
  · cases q : Ψ'.fz a with
    | none => rfl
    | some o =>
      rcases x.nphi a o q with z | z
      · rw [p] at z; cases z
      · exact absurd z h
  · rcases x.nmu a g with z | z
    · exact f z
    · exact h z
theorem set_wipe {σ : L2.St} {i : Nat} : ∀ {vs : List Nat}, i ∈ vs → (wipe σ vs).set i none = wipe σ vs
  | [], h => by cases h
  | v :: vs, h => by
    unfold wipe
    by_cases e : v = i
    · subst e; rw [List.set_set]
    · rcases List.mem_cons.mp h with z | z
      · exact absurd z.symm e
      · rw [List.set_comm _ _ e, set_wipe z]
theorem wipe_wipe {σ : L2.St} {vs : List Nat} : ∀ {us : List Nat}, (∀ i ∈ us, i ∈ vs) → wipe (wipe σ vs) us = wipe σ vs
  | [], _ => rfl
  | u :: us, h => by
    show (wipe (wipe σ vs) us).set u none = _
    rw [wipe_wipe (fun i hi => h i (List.mem_cons_of_mem _ hi)), set_wipe (h u List.mem_cons_self)]
/-- a walk, whatever its turn asks -/
theorem it_gen {J : It} {n : Nat} {G : Hp → Prop} {Y : Nat → Hp → V → Hp → Prop} (w : Walk J n G Y) {H0 : Hp} {Qd : Hp → Prop} {B : V → Hp → (Hp → Prop) → Prop} (Pv : Nat → Hp → Prop) (h0 : Pv 0 H0) (hG : ∀ i H, i ≤ n → Pv i H → G H)
    (hs : ∀ i x H H', i < n → Pv i H → Y i H x H' → B x H' (Pv (i + 1))) (hd : ∀ H, Pv n H → Qd H) :
    ∃ W : Nat → Nat → Hp → Prop, (∃ m, W 0 m H0) ∧ ∀ i m H, W i m H → (J.stop i H ∧ Qd H) ∨ (J.go i H ∧ ∃ Nx : Hp → Prop, (∀ H', Nx H' → ∃ m', m' < m ∧ W (i + 1) m' H') ∧ ∀ x H', J.yld i H x H' → B x H' Nx) := by
  refine ⟨fun i m H => m = n - i ∧ i ≤ n ∧ Pv i H, ⟨n, by simp, Nat.zero_le _, h0⟩, ?_⟩
  rintro i m H ⟨rfl, hi, p⟩
  have q := hG i H hi p
  by_cases hlt : i < n
  · exact .inr ⟨w.goes i H hlt q, Pv (i + 1), fun H' p' => ⟨n - (i + 1), by omega, rfl, hlt, p'⟩, fun x H' y => hs i x H H' hlt p (w.yields i H x H' hlt q y)⟩
  · have e : i = n := by omega
    subst e
    exact .inl ⟨w.stops H q, hd H p⟩

abbrev WF : L2.St → XK := fun _ _ _ _ => False
/-- [e for .. in ds if t] -/
def lcM (bnd : D → Option Env) (t : Env → M Bool) (e : Env → M D) : List D → M (List D)
  | [] => rt []
  | d :: ds => match bnd d with
    | none => stk
    | some ρ => bd (t ρ) fun b => iteM b (bd (e ρ) fun y => bd (lcM bnd t e ds) fun ys => rt (y :: ys)) (lcM bnd t e ds)
structure STs (c : Cf) (X : Cx) (W : L2.St → XK) (ifs : List Expr) (m : Env → M Bool) : Prop where
  p : PTs X ifs (rT c W m)
theorem PTs.imp {X : Cx} {es : List Expr} {t u : TT} (h : PTs X es t) (k : ∀ σ H Q, u σ H Q → t σ H Q) : PTs X es u := ⟨fun pins s σ H Q I q => h.run pins s σ H Q I (k _ _ _ q)⟩
theorem sts_nil {c : Cf} {X : Cx} {W : L2.St → XK} : STs c X W [] (fun _ => rt true) := ⟨PTs.imp pts_nil fun σ H Q ⟨Ψ, ρ, S, F, so, eo, q⟩ => q Ψ H (Ext.refl _ _) so⟩
theorem sts_one {c : Cf} {X : Cx} {W : L2.St → XK} {a : Expr} {m : Env → M Bool} (h : ST c X W a m) : STs c X W [a] m := ⟨pts_one h.p⟩

section
variable {c : Cf} {X : Cx} {W : L2.St → XK} {mi : Env → M (List D)} {mt : Env → M Bool} {me : Env → M D} {t : Tg} {vs : List Nat}
/-- the list that grows, what is to come -/
structure Grow (c : Cf) (Ψ1 : Wd) (H1 : Hp) (D0 : Addr) (R : List D → Sto → Prop) (m : M (List D)) (n : Nat) (H2 : Hp) : Prop where
  ex : ∃ Ψ2 S2 acc accV, Ext Ψ1 H1 Ψ2 H2 ∧ StoOk c Ψ2 H2 S2 ∧ H2 D0 = some (.lst accV) ∧ Reps c Ψ2 accV acc ∧ accV.length ≤ n ∧ Ψ2.fz D0 = none ∧ ¬ Foot Ψ2 D0 ∧ Ok0 (m S2) fun ys S' => R (acc ++ ys) S'
theorem lc_r (hv : ∀ i ∈ t.is, i ∈ vs) {σ : L2.St} {H : Hp} {Q : VK} (h : rN c W (fun ρ => bd (mi ρ) fun ds => noX (lcM (fun d => bindD t d (wipeE ρ vs)) mt me ds)) σ H Q) :
    tLc (rIC c W mi) (gTg c.K t) (rT c WF mt) (rE c WF me) vs σ H Q := by
  obtain ⟨Ψ, ρ, S, F, so, eo, q⟩ := h
  refine ⟨Ψ, ρ, S, F, so, eo, q.bd.mono fun ds S1 q1 Ψ1 J H1 e1 so1 it => ?_⟩
  intro D0 hD
  obtain ⟨hl, G, Y, wk, hG, hY⟩ := it
  have q2 : Ok0 (lcM (fun d => bindD t d (wipeE ρ vs)) mt me ds S1) (RN c Ψ H Q) := Post.ok0 q1
  obtain ⟨F', eo', sub⟩ := eo.wipes vs
  refine it_gen (H0 := upd H1 D0 (.lst [])) (B := fun x H' Nx => gTg c.K t x (wipe σ vs) H' fun σ2 H2 => wipe σ2 vs = wipe σ vs ∧ rT c WF mt σ2 H2 fun b H3 =>
      if b = true then rE c WF me σ2 H3 fun y H4 => ∃ acc, H4 D0 = some (.lst acc) ∧ acc.length < sizeLine ∧ Nx (upd H4 D0 (.lst (acc ++ [y]))) else Nx H3)
    wk (fun i H2 => Grow c Ψ1 H1 D0 (RN c Ψ H Q) (lcM (fun d => bindD t d (wipeE ρ vs)) mt me (ds.drop i)) i H2) ?_ ?_ ?_ ?_
  · exact ⟨Ψ1, S1, [], [], Ext.lay hD, so1.lay hD, upd_same, .nil, Nat.zero_le _, so1.phiNone hD, so1.footNone hD, q2⟩
  · rintro i H2 hi ⟨Ψ2, S2, acc, accV, x2, s2, _⟩
    exact hG Ψ2 S2 H2 x2 s2
  · rintro i x H2 H3 hi ⟨Ψ2, S2, acc, accV, x2, s2, h2, r2, l2, p2, f2, k2⟩ y
    have hd : ds[i]? = some ds[i] := List.getElem?_eq_getElem hi
    obtain ⟨Ψ3, x3, s3, r3⟩ := hY i H2 x H3 Ψ2 S2 _ x2 s2 hd y
    have e13 := x2.trans x3
    rw [List.drop_eq_getElem_cons hi] at k2
    unfold lcM at k2
    cases hb : bindD t ds[i] (wipeE ρ vs) with
    | none => rw [hb] at k2; exact k2.elim
    | some ρ' =>
      rw [hb] at k2
      have k3 : Ok0 (bd (mt ρ') (fun b => iteM b (bd (me ρ') fun y => bd (lcM (fun d => bindD t d (wipeE ρ vs)) mt me (ds.drop (i + 1))) fun ys => rt (y :: ys)) (lcM (fun d => bindD t d (wipeE ρ vs)) mt me (ds.drop (i + 1)))) S2) _ := k2
      refine bind_ok s3 (eo'.ext (e1.trans e13)) r3 hb fun σ' F'' eo3 _ hw _ => ?_
      refine ⟨(hw vs hv).trans (wipe_wipe fun _ h => h), Ψ3, ρ', S2, F'', s3, eo3, (k3.bd.post).mono fun b S4 q4 Ψ4 H4 x4 s4 => ?_⟩
      have hD3 : H3 D0 = some (.lst accV) := x3.keep _ _ h2 f2
      have fr3 := x3.free p2 f2 (by rw [h2]; exact fun z => nomatch z)
      have hD4 : H4 D0 = some (.lst accV) := x4.keep _ _ hD3 fr3.2
      have fr4 := x4.free fr3.1 fr3.2 (by rw [hD3]; exact fun z => nomatch z)
      have e14 := e13.trans x4
      cases b with
      | false =>
        show if false = true then _ else _
        rw [if_neg Bool.false_ne_true]
        exact ⟨Ψ4, S4, acc, accV, e14, s4, hD4, r2.mono (x3.le.trans x4.le), Nat.le_succ_of_le l2, fr4.1, fr4.2, q4⟩
      | true =>
        show if true = true then _ else _
        rw [if_pos rfl]
        have q5 : Ok0 (bd (me ρ') (fun y => bd (lcM (fun d => bindD t d (wipeE ρ vs)) mt me (ds.drop (i + 1))) fun ys => rt (y :: ys)) S4) _ := q4
        refine ⟨Ψ4, ρ', S4, F'', s4, eo3.ext x4, (q5.bd.post).mono fun dy S5 q6 Ψ5 y5 H5 x5 s5 r5 => ?_⟩
        have hD5 : H5 D0 = some (.lst accV) := x5.keep _ _ hD4 fr4.2
        have fr5 := x5.free fr4.1 fr4.2 (by rw [hD4]; exact fun z => nomatch z)
        have e15 := e14.trans x5
        refine ⟨accV, hD5, lim_lt (by omega), Ψ5, S5, acc ++ [dy], accV ++ [y5], e15.upd hD, s5.updF fr5.1 fr5.2, upd_same, (r2.mono ((x3.le.trans x4.le).trans x5.le)).app (.cons r5 .nil), by rw [List.length_append]; exact Nat.succ_le_succ l2, fr5.1, fr5.2, ?_⟩
        refine q6.bd.mono fun ys S6 q7 => ?_
        rw [List.append_assoc]
        exact q7
  · rintro H2 ⟨Ψ2, S2, acc, accV, x2, s2, h2, r2, l2, p2, f2, k2⟩
    rw [List.drop_eq_nil_of_le (Nat.le_refl _)] at k2
    have k3 : RN c Ψ H Q (acc ++ []) S2 := k2
    rw [List.append_nil] at k3
    exact k3 Ψ2 D0 accV H2 (e1.trans x2) s2 h2 (Nat.le_trans l2 hl) r2 p2 f2 (e1.dom D0 hD)
end
section
variable {c : Cf} {X : Cx} {W : L2.St → XK} {mi : Env → M (List D)} {mt : Env → M Bool} {me : Env → M D} {t : Tg} {elt tg iter : Expr} {ifs : List Expr} {scope : Scope} {own : List (Str × Nat)} {pos : Pos}
theorem sn_lc (hi : SIC c X W tg iter mi) (hN : X.N.Nodup) (ok : BlkOk X.N X.env.scope scope own) (hv : ∀ i ∈ t.is, i ∈ own.map (·.2))
    (hg : ∀ (s : Shared) (H : Hp) (C : Addr) (cl : List (Str × Addr)) (fp : List Addr), SG (X.blk s H scope (compEnvC scope cl C X.env) fp) tg t) (ht : ∀ (s : Shared) (H : Hp) (C : Addr) (cl : List (Str × Addr)) (fp : List Addr), STs c (X.blk s H scope (compEnvC scope cl C X.env) fp) WF ifs mt)
    (he : ∀ (s : Shared) (H : Hp) (C : Addr) (cl : List (Str × Addr)) (fp : List Addr), SE c (X.blk s H scope (compEnvC scope cl C X.env) fp) WF elt me) (hc : X.calm = true := by rfl) (hs : ∀ x, foldedSetIterable iter X.env x = pure x := by intro _; rfl) :
    SN c X W (.ListComp elt [⟨tg, iter, ifs, 0⟩] scope pos) (fun ρ => bd (mi ρ) fun ds => noX (lcM (fun d => bindD t d (wipeE ρ (own.map (·.2)))) mt me ds)) :=
  ⟨hi.k, PE.imp (pe_lc hc hN hi.p ok (fun s H C cl fp => hi.k ▸ (hg s H C cl fp).p) (fun s H C cl fp => (ht s H C cl fp).p) (fun s H C cl fp => (he s H C cl fp).p) hs) fun σ H Q h => lc_r hv h⟩
end
end Sm

/-! text: Sim8 -/
set_option Elab.async false
set_option linter.all false
set_option maxRecDepth 100000
set_option maxHeartbeats 1000000
namespace Sm
open PySem PySem.Spec PyProof.Rows L2

/-! ### statements -/
inductive Out where
  | nx (ρ : Env)
  | ret (d : D)
  | bk (ρ : Env)
  | ct (ρ : Env)
/-- where the def began -/
structure Bs where
  wd : Wd
  H : Hp
  self : Addr
structure Gd (c : Cf) (B : Bs) (Ψ : Wd) (σ : L2.St) (ρ : Env) (H : Hp) (F : Nat → List Addr) (S : Sto) : Prop where
  x : Ext B.wd B.H Ψ H
  so : StoOk c Ψ H S
  eo : EnvOk c Ψ σ ρ H F
  fr : ∀ i b, b ∈ F i → B.H b = none
  me : ∀ k fs, ρ[0]? = some (.ownI k fs) → σ[0]? = some (some (.ref B.self))
def OutP (c : Cf) (B : Bs) (D : Ends) : Out → Sto → Prop
  | .nx ρ, S => ∀ Ψ σ H F, Gd c B Ψ σ ρ H F S → D.nx σ H
  | .bk ρ, S => ∀ Ψ σ H F, Gd c B Ψ σ ρ H F S → D.bk σ H
  | .ct ρ, S => ∀ Ψ σ H F, Gd c B Ψ σ ρ H F S → D.ct σ H
  | .ret d, S => ∀ Ψ v H, Ext B.wd B.H Ψ H → StoOk c Ψ H S → Rep c Ψ v d → D.rt v H
def rS (c : Cf) (W : XK) (m : Env → M Out) : TS := fun D σ H => ∃ B Ψ ρ S F, Gd c B Ψ σ ρ H F S ∧ Post c W B.wd B.H (m ρ S) (OutP c B D)
structure SS (c : Cf) (X : Cx) (W : XK) (st : Stmt) (m : Env → M Out) : Prop where
  k : X.K = c.K
  p : PS X st (rS c W m)
structure SSs (c : Cf) (X : Cx) (W : XK) (sts : List Stmt) (m : Env → M Out) : Prop where
  k : X.K = c.K
  p : PSs X sts (rS c W m)
abbrev cW (W : XK) : L2.St → XK := fun _ => W
section
variable {c : Cf} {B : Bs} {Ψ Ψ' : Wd} {σ : L2.St} {ρ : Env} {H H' : Hp} {F : Nat → List Addr} {S S' : Sto}
theorem Gd.ext (g : Gd c B Ψ σ ρ H F S) (x : Ext Ψ H Ψ' H') (s : StoOk c Ψ' H' S') : Gd c B Ψ' σ ρ H' F S' := ⟨g.x.trans x, s, g.eo.ext x, g.fr, g.me⟩
theorem set0 {α : Type} {l : List α} {i : Nat} {x y : α} (h : (l.set i x)[0]? = some y) : (i = 0 ∧ x = y) ∨ (i ≠ 0 ∧ l[0]? = some y) := by
  by_cases z : i = 0
  · subst z
    by_cases hl : 0 < l.length
    · rw [List.getElem?_set_self hl] at h
      exact .inl ⟨rfl, Option.some.inj h⟩
    · rw [List.getElem?_eq_none (by rw [List.length_set]; omega)] at h
      cases h
  · rw [List.getElem?_set_ne z] at h
    exact .inr ⟨z, h⟩
theorem Gd.setV (g : Gd c B Ψ σ ρ H F S) (i : Nat) {v : V} {d : D} (r : Rep c Ψ v d) : Gd c B Ψ (σ.set i (some v)) (ρ.set i (.val d)) H (off F i) S :=
  ⟨g.x, g.so, g.eo.setV i r, fun j b hb => g.fr j b (off_sub hb).1, fun k fs h => by
    rcases set0 h with ⟨_, z⟩ | ⟨n, z⟩
    · cases z
    · rw [List.getElem?_set_ne n]; exact g.me k fs z⟩
theorem Gd.keep0 {σ' : L2.St} {ρ' : Env} {F' : Nat → List Addr} (g : Gd c B Ψ σ ρ H F S) (e : EnvOk c Ψ σ' ρ' H F') (s : ∀ i b, b ∈ F' i → b ∈ F i) (k : Keep0 σ ρ σ' ρ') : Gd c B Ψ σ' ρ' H F' S :=
  ⟨g.x, g.so, e, fun j b hb => g.fr j b (s j b hb), fun kk fs h => by
    obtain ⟨h1, h2⟩ := k kk fs h
    rw [h2]; exact g.me kk fs h1⟩
/-- own things: the frame's place i holds what is at As -/
def onF (F : Nat → List Addr) (i : Nat) (As : List Addr) : Nat → List Addr := fun j => if j = i then As else F j
theorem onF_eq {i : Nat} {As : List Addr} : onF F i As i = As := if_pos rfl
theorem onF_ne {i j : Nat} {As : List Addr} (h : j ≠ i) : onF F i As j = F j := if_neg h
/-- a place is given an own thing -/
theorem EnvOk.setO (e : EnvOk c Ψ σ ρ H F) (i : Nat) (hi : i < ρ.length) {o : Option V} {s : Slot} {As : List Addr} (hs : SlotOk c Ψ H As (some o) s) (hp : ∀ b ∈ As, Ψ.fz b = none ∧ ¬ Foot Ψ b ∧ H b ≠ none)
    (hn : ∀ b ∈ As, ∀ j, j ≠ i → b ∉ F j) : EnvOk c Ψ (σ.set i o) (ρ.set i s) H (onF F i As) := by
  refine ⟨by rw [List.length_set, List.length_set]; exact e.len, fun j s' hs' => ?_, fun j hj => ?_, fun j b hb => ?_, fun a b x ne hx hy => ?_⟩
  · by_cases z : j = i
    · subst z
      rw [List.getElem?_set_self hi] at hs'
      cases hs'
      rw [onF_eq, List.getElem?_set_self (by rw [e.len]; exact hi)]
      exact hs
    · rw [List.getElem?_set_ne (Ne.symm z)] at hs'
      rw [onF_ne z, List.getElem?_set_ne (Ne.symm z)]
      exact e.slot j s' hs'
  · by_cases z : j = i
    · subst z
      rw [List.getElem?_set_self hi] at hj
      cases hj
    · rw [List.getElem?_set_ne (Ne.symm z)] at hj
      rw [onF_ne z]; exact e.out j hj
  · by_cases z : j = i
    · subst z; rw [onF_eq] at hb; exact hp b hb
    · rw [onF_ne z] at hb; exact e.priv j b hb
  · by_cases z : a = i
    · subst z
      rw [onF_eq] at hx
      rw [onF_ne (Ne.symm ne)] at hy
      exact hn x hx b (Ne.symm ne) hy
    · rw [onF_ne z] at hx
      by_cases z2 : b = i
      · subst z2
        rw [onF_eq] at hy
        exact hn x hy a z hx
      · rw [onF_ne z2] at hy
        exact e.sep a b x ne hx hy
theorem Gd.setO (g : Gd c B Ψ σ ρ H F S) (i : Nat) {o : Option V} {s : Slot} {As : List Addr} (hs : SlotOk c Ψ H As (some o) s) (hp : ∀ b ∈ As, Ψ.fz b = none ∧ ¬ Foot Ψ b ∧ H b ≠ none ∧ B.H b = none)
    (hn : ∀ b ∈ As, ∀ j, j ≠ i → b ∉ F j) (h0 : ∀ k fs, s = .ownI k fs → i ≠ 0) : ∃ F', Gd c B Ψ (σ.set i o) (ρ.set i s) H F' S := by
  by_cases hi : i < ρ.length
  · refine ⟨onF F i As, g.x, g.so, g.eo.setO i hi hs (fun b hb => ⟨(hp b hb).1, (hp b hb).2.1, (hp b hb).2.2.1⟩) hn, fun j b hb => ?_, fun k fs h => ?_⟩
    · by_cases z : j = i
      · subst z; rw [onF_eq] at hb; exact (hp b hb).2.2.2
      · rw [onF_ne z] at hb; exact g.fr j b hb
    · rcases set0 h with ⟨z1, z⟩ | ⟨n, z⟩
      · exact absurd z1 (h0 k fs z)
      · rw [List.getElem?_set_ne n]; exact g.me k fs z
  · refine ⟨F, ?_⟩
    have hl := g.eo.len
    rw [List.set_eq_of_length_le (l := σ) (by omega), List.set_eq_of_length_le (l := ρ) (by omega)]
    exact g
/-- a new list for the place i -/
theorem Gd.setN (g : Gd c B Ψ σ ρ H F S) (i : Nat) {a : Addr} {vs : List V} {ds : List D} (x : Ext Ψ H Ψ' H') (so : StoOk c Ψ' H' S') (h : H' a = some (.lst vs)) (l : vs.length ≤ LIM) (r : Reps c Ψ' vs ds) (p : Ψ'.fz a = none) (f : ¬ Foot Ψ' a) (n : H a = none) :
    ∃ F', Gd c B Ψ' (σ.set i (some (.ref a))) (ρ.set i (.own ds)) H' F' S' := by
  refine (g.ext x so).setO i (As := [a]) ⟨a, vs, rfl, rfl, h, l, r⟩ (fun b hb => ?_) (fun b hb j _ hj => ?_) (fun _ _ z => nomatch z)
  · rcases List.mem_singleton.mp hb with rfl
    have h0 : H' b ≠ none := by rw [h]; exact fun z => nomatch z
    exact ⟨p, f, h0, g.x.dom _ n⟩
  · rcases List.mem_singleton.mp hb with rfl
    exact (g.eo.priv j _ hj).2.2 n
/-- another beginning: here -/
noncomputable def hideF (H : Hp) (F : Nat → List Addr) : Hp := fun b => @ite _ (∃ i, b ∈ F i) (Classical.propDecidable _) none (H b)
theorem hideF_in {b : Addr} {i : Nat} (h : b ∈ F i) : hideF H F b = none := by unfold hideF; rw [if_pos ⟨i, h⟩]
theorem hideF_out {b : Addr} (h : ∀ i, b ∉ F i) : hideF H F b = H b := by unfold hideF; rw [if_neg (fun ⟨i, z⟩ => h i z)]
theorem hideF_sub {b : Addr} {o : HO} (h : hideF H F b = some o) : H b = some o := by
  by_cases z : ∃ i, b ∈ F i
  · obtain ⟨i, z⟩ := z
    rw [hideF_in z] at h; cases h
  · rw [hideF_out (fun i hi => z ⟨i, hi⟩)] at h; exact h
theorem hideF_none {b : Addr} (h : H b = none) : hideF H F b = none := by
  cases e : hideF H F b with
  | none => rfl
  | some o => rw [hideF_sub e] at h; cases h
noncomputable def Bs.at (B : Bs) (Ψ : Wd) (H : Hp) (F : Nat → List Addr) : Bs := ⟨Ψ, hideF H F, B.self⟩
theorem Gd.here (g : Gd c B Ψ σ ρ H F S) : Gd c (B.at Ψ H F) Ψ σ ρ H F S :=
  ⟨⟨Le.refl _, fun b h => hideF_none h, fun _ _ h => .inl h, fun _ h => .inl h, fun b o h _ => hideF_sub h⟩, g.so, g.eo, fun i b hb => hideF_in hb, g.me⟩
theorem Gd.there (g : Gd c B Ψ σ ρ H F S) : Ext B.wd B.H (B.at Ψ H F).wd (B.at Ψ H F).H where
  le := g.x.le
  dom := fun b h => by
    by_cases z : ∃ i, b ∈ F i
    · obtain ⟨i, z⟩ := z
      exact g.fr i b z
    · refine g.x.dom b ?_
      have h' : hideF H F b = none := h
      rwa [hideF_out (fun i hi => z ⟨i, hi⟩)] at h'
  nphi := g.x.nphi
  nmu := g.x.nmu
  keep := fun b o h f => by
    have h' := g.x.keep b o h f
    show hideF H F b = _
    rw [hideF_out (fun i hi => by rw [g.fr i b hi] at h; cases h)]
    exact h'
theorem Gd.back {σ' : L2.St} {ρ' : Env} {F' : Nat → List Addr} (g : Gd c B Ψ σ ρ H F S) (h : Gd c (B.at Ψ H F) Ψ' σ' ρ' H' F' S') : Gd c B Ψ' σ' ρ' H' F' S' :=
  ⟨g.there.trans h.x, h.so, h.eo, fun i b hb => g.there.dom b (h.fr i b hb), h.me⟩
/-- the own list at i has changed -/
theorem Gd.upd (g : Gd c B Ψ σ ρ H F S) {i : Nat} {a : Addr} {o : HO} {s s' : Slot} (hs : ρ[i]? = some s) (ha : a ∈ F i) (k : SlotOk c Ψ (L2.upd H a o) (F i) σ[i]? s') (h0 : ∀ kk fs, s' = .ownI kk fs → ∃ k2 f2, s = .ownI k2 f2) :
    Gd c B Ψ σ (ρ.set i s') (L2.upd H a o) F S := by
  have pr := g.eo.priv i a ha
  have hi : i < ρ.length := (List.getElem?_eq_some_iff.mp hs).1
  have nb : ∀ b, H b = none → b ≠ a := fun b hb z => pr.2.2 (by rw [← z]; exact hb)
  refine ⟨g.x.upd (g.fr i a ha), g.so.updF pr.1 pr.2.1, ⟨by rw [List.length_set]; exact g.eo.len, fun j s2 hs2 => ?_, fun j hj => ?_, fun j b hb => ?_, g.eo.sep⟩, g.fr, fun kk fs h => ?_⟩
  · by_cases z : j = i
    · subst z
      rw [List.getElem?_set_self hi] at hs2
      cases hs2
      exact k
    · rw [List.getElem?_set_ne (Ne.symm z)] at hs2
      refine (g.eo.slot j s2 hs2).keep (Le.refl _) fun b hb u hu => ?_
      rw [upd_ne (fun e => g.eo.sep j i b z hb (by rw [e]; exact ha))]
      exact hu
  · by_cases z : j = i
    · subst z
      rw [List.getElem?_set_self hi] at hj
      cases hj
    · rw [List.getElem?_set_ne (Ne.symm z)] at hj
      exact g.eo.out j hj
  · obtain ⟨p1, p2, p3⟩ := g.eo.priv j b hb
    refine ⟨p1, p2, fun z => ?_⟩
    by_cases e : b = a
    · subst e; rw [upd_same] at z; cases z
    · rw [upd_ne e] at z; exact p3 z
  · rcases set0 h with ⟨z1, z⟩ | ⟨n, z⟩
    · subst z1
      obtain ⟨k2, f2, e⟩ := h0 kk fs z
      subst e
      exact g.me k2 f2 hs
    · exact g.me kk fs z
end

/-! ### blocks -/
def seqS (a b : Env → M Out) : Env → M Out := fun ρ => bd (a ρ) fun o => match o with
  | .nx ρ' => b ρ'
  | o => rt o
def nextS : Env → M Out := fun ρ => rt (.nx ρ)
section
variable {c : Cf} {X : Cx} {W : XK} {st : Stmt} {rest sts : List Stmt} {e : Expr} {pos pos' : Pos} {i : Nat} {x : Str}
theorem sss_nil (k : X.K = c.K) : SSs c X W [] nextS := ⟨k, PSs.imp pss_nil fun D σ H ⟨B, Ψ, ρ, S, F, g, q⟩ => q Ψ σ H F g⟩
theorem sss_cons {a b : Env → M Out} (h : SS c X W st a) (t : SSs c X W rest b) : SSs c X W (st :: rest) (seqS a b) := by
  refine ⟨h.k, PSs.imp (pss_cons h.p t.p) fun D σ H ⟨B, Ψ, ρ, S, F, g, q⟩ => ⟨B, Ψ, ρ, S, F, g, q.bd.mono fun o S' q' => ?_⟩⟩
  cases o with
  | nx ρ' => exact fun Ψ σ H F g => ⟨B, Ψ, ρ', S', F, g, q'⟩
  | ret d => exact q'
  | bk ρ' => exact q'
  | ct ρ' => exact q'
theorem sss_one {a : Env → M Out} (h : SS c X W st a) : SSs c X W [st] a := ⟨h.k, PSs.imp (pss_one h.p) fun _ _ _ q => q⟩
/-- the own list at i may no more be changed: it is a value -/
def frzE (i : Nat) (ρ : Env) : Env := match ρ[i]? with
  | some (.own ds) => ρ.set i (.val (.lst ds))
  | _ => ρ
theorem Gd.frz {B : Bs} {Ψ : Wd} {σ : L2.St} {ρ : Env} {H : Hp} {F : Nat → List Addr} {S : Sto} (g : Gd c B Ψ σ ρ H F S) (i : Nat) : ∃ Ψ' F', Gd c B Ψ' σ (frzE i ρ) H F' S := by
  unfold frzE
  split
  · rename_i ds hs
    obtain ⟨a, vs, hF, h1, h2, l, h3⟩ := g.eo.slot i _ hs
    have ha : a ∈ F i := by rw [hF]; simp
    have pr := g.eo.priv i a ha
    have hi : i < ρ.length := (List.getElem?_eq_some_iff.mp hs).1
    have lk : Le Ψ (Ψ.know a (.lst vs)) := Le.know pr.1
    have phi : ∀ b o, (Ψ.know a (.lst vs)).fz b = some o → Ψ.fz b = some o ∨ b = a := fun b o e => by
      by_cases z : b = a
      · exact .inr z
      · have e' : L2.upd Ψ.fz a (.lst vs) b = some o := e
        rw [upd_ne z] at e'
        exact .inl e'
    refine ⟨Ψ.know a (.lst vs), off F i, ⟨g.x.le.trans lk, g.x.dom, fun b o e => ?_, g.x.nmu, g.x.keep⟩, g.so.know h2 pr.1 pr.2.1, ⟨by rw [List.length_set]; exact g.eo.len, fun j s hj => ?_, fun j hj => ?_, fun j b hb => ?_, fun p q b ne hp hq => g.eo.sep p q b ne (off_sub hp).1 (off_sub hq).1⟩, fun j b hb => g.fr j b (off_sub hb).1, fun k fs h => ?_⟩
    · rcases phi b o e with z | rfl
      · exact g.x.nphi b o z
      · exact .inr (g.fr i _ ha)
    · by_cases z : j = i
      · subst z
        rw [List.getElem?_set_self hi] at hj
        cases hj
        exact ⟨off_eq, _, h1, .lst (show L2.upd Ψ.fz a _ a = _ from upd_same) l (h3.mono lk)⟩
      · rw [List.getElem?_set_ne (Ne.symm z)] at hj
        rw [off_ne z]
        exact (g.eo.slot j s hj).keep lk fun _ _ _ h => h
    · by_cases z : j = i
      · subst z; exact off_eq
      · rw [List.getElem?_set_ne (Ne.symm z)] at hj
        rw [off_ne z]; exact g.eo.out j hj
    · obtain ⟨hb1, hb2⟩ := off_sub hb
      obtain ⟨p1, p2, p3⟩ := g.eo.priv j b hb1
      refine ⟨?_, p2, p3⟩
      have z : b ≠ a := fun e => g.eo.sep j i b hb2 hb1 (by rw [e]; exact ha)
      show L2.upd Ψ.fz a (.lst vs) b = none
      rw [upd_ne z]; exact p1
    · rcases set0 h with ⟨_, z⟩ | ⟨n, z⟩
      · cases z
      · exact g.me k fs z
  · exact ⟨Ψ, F, g⟩
def frzS : List Nat → Env → Env
  | [], ρ => ρ
  | i :: is, ρ => frzS is (frzE i ρ)
theorem Gd.frzs {B : Bs} {σ : L2.St} {H : Hp} {S : Sto} : ∀ (is : List Nat) {Ψ : Wd} {ρ : Env} {F : Nat → List Addr}, Gd c B Ψ σ ρ H F S → ∃ Ψ' F', Gd c B Ψ' σ (frzS is ρ) H F' S
  | [], Ψ, _, F, g => ⟨Ψ, F, g⟩
  | i :: is, _, _, _, g => by
    obtain ⟨Ψ1, F1, g1⟩ := g.frz i
    exact Gd.frzs is g1
theorem ss_frz (is : List Nat) {a : Env → M Out} (h : SS c X W st a) : SS c X W st (fun ρ => a (frzS is ρ)) :=
  ⟨h.k, PS.imp h.p fun D σ H ⟨B, Ψ, ρ, S, F, g, q⟩ => by
    obtain ⟨Ψ', F', g'⟩ := g.frzs is
    exact ⟨B, Ψ', frzS is ρ, S, F', g', q⟩⟩
theorem ss_if {c' : Expr} {a b : List Stmt} {mt : Env → M Bool} {ma mb : Env → M Out} (ht : ST c X (cW W) c' mt) (ha : SSs c X W a ma) (hb : SSs c X W b mb) : SS c X W (.If c' a b pos) (fun ρ => bd (mt ρ) fun t => iteM t (ma ρ) (mb ρ)) := by
  refine ⟨ht.k, PS.imp (ps_if ht.p ha.p hb.p) fun D σ H ⟨B, Ψ, ρ, S, F, g, q⟩ => ⟨Ψ, ρ, S, F, g.so, g.eo, (q.bd.ext g.x).mono fun t S1 q1 Ψ1 H1 x1 s1 => ?_⟩⟩
  cases t with
  | true => exact ⟨B, Ψ1, ρ, S1, F, g.ext x1 s1, q1⟩
  | false => exact ⟨B, Ψ1, ρ, S1, F, g.ext x1 s1, q1⟩
theorem ss_never (k : X.K = c.K) : SS c X W st (fun _ => stk) := ⟨k, PS.imp ps_never fun D σ H ⟨B, Ψ, ρ, S, F, g, q⟩ => q⟩
theorem ss_pass (k : X.K = c.K) : SS c X W (.Pass pos) nextS := ⟨k, PS.imp ps_pass fun D σ H ⟨B, Ψ, ρ, S, F, g, q⟩ => q Ψ σ H F g⟩
theorem ss_break (k : X.K = c.K) : SS c X W (.Break pos) (fun ρ => rt (.bk ρ)) := ⟨k, PS.imp ps_break fun D σ H ⟨B, Ψ, ρ, S, F, g, q⟩ => q Ψ σ H F g⟩
theorem ss_cont (k : X.K = c.K) : SS c X W (.Continue pos) (fun ρ => rt (.ct ρ)) := ⟨k, PS.imp ps_continue fun D σ H ⟨B, Ψ, ρ, S, F, g, q⟩ => q Ψ σ H F g⟩
theorem ss_ret {m : Env → M D} (h : SE c X (cW W) e m) : SS c X W (.Return (some e) pos) (fun ρ => bd (m ρ) fun d => rt (.ret d)) :=
  ⟨h.k, PS.imp (ps_ret h.p) fun D σ H ⟨B, Ψ, ρ, S, F, g, q⟩ => ⟨Ψ, ρ, S, F, g.so, g.eo, (q.bd.ext g.x).mono fun d S1 q1 Ψ1 v H1 x1 s1 r1 => q1 Ψ1 v H1 (g.x.trans x1) s1 r1⟩⟩
theorem ss_retN (k : X.K = c.K) : SS c X W (.Return none pos) (fun _ => rt (.ret .non)) := ⟨k, PS.imp ps_retN fun D σ H ⟨B, Ψ, ρ, S, F, g, q⟩ => q Ψ .non H g.x g.so .non⟩
theorem ss_expr {m : Env → M D} (h : SE c X (cW W) e m) (hs : swapsWith e none pos.line X.env = pure false := by rfl) : SS c X W (.Expr e pos) (fun ρ => bd (m ρ) fun _ => rt (.nx ρ)) :=
  ⟨h.k, PS.imp (ps_expr h.p hs) fun D σ H ⟨B, Ψ, ρ, S, F, g, q⟩ => ⟨Ψ, ρ, S, F, g.so, g.eo, (q.bd.ext g.x).mono fun d S1 q1 Ψ1 v H1 x1 s1 r1 => q1 Ψ1 σ H1 F (g.ext x1 s1)⟩⟩
theorem ss_set {m : Env → M D} (h : SE c X (cW W) e m) (hN : X.N.Nodup) (hi : X.N[i]? = some x := by rfl) (hx : Loc X.env.scope x := by first | exact Or.inl rfl | exact Or.inr rfl) (hs : swapsWith e (some (.Name x pos')) pos.line X.env = pure false := by rfl) (hf : X.fn x = true ∨ X.env.scope.names.lookup x = some .local := by first | exact .inl rfl | exact .inr rfl) :
    SS c X W (.Assign [.Name x pos'] e pos) (fun ρ => bd (m ρ) fun d => rt (.nx (ρ.set i (.val d)))) :=
  ⟨h.k, PS.imp (ps_set hN hi hx h.p hs hf) fun D σ H ⟨B, Ψ, ρ, S, F, g, q⟩ => ⟨Ψ, ρ, S, F, g.so, g.eo, (q.bd.ext g.x).mono fun d S1 q1 Ψ1 v H1 x1 s1 r1 => q1 Ψ1 _ H1 _ ((g.ext x1 s1).setV i r1)⟩⟩
theorem ss_setN {m : Env → M (List D)} (h : SN c X (cW W) e m) (hN : X.N.Nodup) (hi : X.N[i]? = some x := by rfl) (hx : Loc X.env.scope x := by first | exact Or.inl rfl | exact Or.inr rfl) (hs : swapsWith e (some (.Name x pos')) pos.line X.env = pure false := by rfl) (hf : X.fn x = true ∨ X.env.scope.names.lookup x = some .local := by first | exact .inl rfl | exact .inr rfl) :
    SS c X W (.Assign [.Name x pos'] e pos) (fun ρ => bd (m ρ) fun ds => rt (.nx (ρ.set i (.own ds)))) :=
  ⟨h.k, PS.imp (ps_set hN hi hx h.p hs hf) fun D σ H ⟨B, Ψ, ρ, S, F, g, q⟩ => ⟨Ψ, ρ, S, F, g.so, g.eo, (q.bd.ext g.x).mono fun ds S1 q1 Ψ1 a vs H1 x1 s1 h1 l1 r1 p1 f1 n1 => by
    obtain ⟨F', g'⟩ := g.setN i x1 s1 h1 l1 r1 p1 f1 n1
    exact q1 Ψ1 _ H1 F' g'⟩⟩
/-- a, b, .. = a tuple -/
theorem ss_asgT {m : Env → M D} {tg : Expr} {t : Tg} (h : SE c X (cW W) e m) (ht : SG X tg t) (hs : swapsWithSole [tg] e pos.line X.env = pure false := by rfl) (hw : swappedStores [tg] e X.env = pure none := by rfl)
    (h1 : (assignEach [tg] X.env).map (·.2) = [assign tg X.env] := by rfl) : SS c X W (.Assign [tg] e pos) (fun ρ => bd (m ρ) fun d => match bindD t d ρ with
      | some ρ' => rt (.nx ρ')
      | none => stk) := by
  refine ⟨h.k, PS.imp (ps_asg h.p ht.p hs hw h1) fun D σ H ⟨B, Ψ, ρ, S, F, g, q⟩ => ⟨Ψ, ρ, S, F, g.so, g.eo, (q.bd.ext g.x).mono fun d S1 q1 Ψ1 v H1 x1 s1 r1 => ?_⟩⟩
  cases hb : bindD t d ρ with
  | none => rw [hb] at q1; exact q1.elim
  | some ρ' =>
    rw [hb] at q1
    rw [h.k]
    have g1 := g.ext x1 s1
    exact bind_ok s1 g1.eo r1 hb fun σ' F' e' s' _ k' => q1 Ψ1 σ' H1 F' (g1.keep0 e' s' k')
end

/-! ### loops -/
def forM (t : Tg) (b : Env → M Out) : List D → Env → M Out
  | [], ρ => rt (.nx ρ)
  | d :: ds, ρ => match bindD t d ρ with
    | none => stk
    | some ρ' => bd (b ρ') fun o => match o with
      | .nx ρ2 => forM t b ds ρ2
      | .ct ρ2 => forM t b ds ρ2
      | .bk ρ2 => rt (.nx ρ2)
      | .ret d => rt (.ret d)
def whM (t : Env → M Bool) (b : Env → M Out) : Nat → Env → M Out
  | 0, _ => stk
  | n + 1, ρ => bd (t ρ) fun x => iteM x (bd (b ρ) fun o => match o with
      | .nx ρ2 => whM t b n ρ2
      | .ct ρ2 => whM t b n ρ2
      | .bk ρ2 => rt (.nx ρ2)
      | .ret d => rt (.ret d)) (rt (.nx ρ))
section
variable {c : Cf} {X : Cx} {W : XK} {pos : Pos} {tg iter : Expr} {body : List Stmt} {t : Tg}
theorem ss_for {mi : Env → M (List D)} {mb : Env → M Out} (hi : SI c X (cW W) tg iter mi) (ht : SG X tg t) (hb : SSs c X W body mb) (hp : PassesOwn (model X.prog X.w) X.A X.env X.xe) (hc : X.calm = true := by rfl)
    (hs : ∀ x, foldedSetIterable iter X.env x = pure x := by intro _; rfl) : SS c X W (.For tg iter body [] pos) (fun ρ => bd (mi ρ) fun ds => forM t mb ds ρ) := by
  refine ⟨hi.k, PS.imp (ps_for hp hc hi.p ht.p hb.p hs) fun D σ H ⟨B, Ψ, ρ, S, F, g, q⟩ => ⟨Ψ, ρ, S, F, g.so, g.eo, (q.bd.ext g.x).mono fun ds S1 q1 Ψ1 J H1 x1 s1 it => ?_⟩⟩
  obtain ⟨hl, G, Y, wk, hG, hY⟩ := it
  have g1 := g.ext x1 s1
  have ex : Ext B.wd B.H (B.at Ψ1 H1 F).wd (B.at Ψ1 H1 F).H := g1.there
  refine for_it wk (fun i σ2 H2 => ∃ Ψ2 ρ2 S2 F2, Gd c (B.at Ψ1 H1 F) Ψ2 σ2 ρ2 H2 F2 S2 ∧ Post c W B.wd B.H (forM t mb (ds.drop i) ρ2 S2) (OutP c B D)) ?_ ?_ ?_ ?_
  · exact ⟨Ψ1, ρ, S1, F, g1.here, q1⟩
  · rintro i σ2 H2 _ ⟨Ψ2, ρ2, S2, F2, g2, _⟩
    exact hG Ψ2 S2 H2 g2.x.le g2.so
  · rintro i x σ2 H2 H3 hlt ⟨Ψ2, ρ2, S2, F2, g2, q2⟩ y
    have hd : ds[i]? = some ds[i] := List.getElem?_eq_getElem hlt
    obtain ⟨Ψ3, x3, s3, r3⟩ := hY i H2 x H3 Ψ2 S2 _ g2.x.le g2.so hd y
    rw [List.drop_eq_getElem_cons hlt] at q2
    unfold forM at q2
    have g3 := g2.ext x3 s3
    cases hb' : bindD t ds[i] ρ2 with
    | none => rw [hb'] at q2; exact q2.elim
    | some ρ' =>
      rw [hb'] at q2
      rw [hi.k]
      refine bind_ok s3 g3.eo r3 hb' fun σ' F' e' sb _ k' => ?_
      have g4 := g3.keep0 e' sb k'
      refine ⟨B.at Ψ1 H1 F, Ψ3, ρ', S2, F', g4, ((Post.bd q2).ext ex).mono fun o S4 q4 => ?_⟩
      cases o with
      | nx ρ4 => exact fun Ψ4 σ4 H4 F4 g4 => ⟨Ψ4, ρ4, S4, F4, g4, q4⟩
      | ct ρ4 => exact fun Ψ4 σ4 H4 F4 g4 => ⟨Ψ4, ρ4, S4, F4, g4, q4⟩
      | bk ρ4 => exact fun Ψ4 σ4 H4 F4 g4 => q4 Ψ4 σ4 H4 F4 (g1.back g4)
      | ret d => exact fun Ψ4 v H4 x4 s4 r4 => q4 Ψ4 v H4 (ex.trans x4) s4 r4
  · rintro σ2 H2 ⟨Ψ2, ρ2, S2, F2, g2, q2⟩
    rw [List.drop_eq_nil_of_le (Nat.le_refl _)] at q2
    exact q2 Ψ2 σ2 H2 F2 (g1.back g2)
theorem ss_while {cond : Expr} {mt : Env → M Bool} {mb : Env → M Out} (n : Nat) (ht : ST c X (cW W) cond mt) (hb : SSs c X W body mb) (hp : PassesOwn (model X.prog X.w) X.A X.env X.xe) : SS c X W (.While cond body [] pos) (fun ρ => whM mt mb n ρ) := by
  refine ⟨ht.k, PS.imp (ps_while hp ht.p hb.p) fun D σ H ⟨B, Ψ, ρ, S, F, g, q⟩ => ?_⟩
  refine ⟨fun n σ2 H2 => ∃ Ψ2 ρ2 S2 F2, Gd c B Ψ2 σ2 ρ2 H2 F2 S2 ∧ Post c W B.wd B.H (whM mt mb n ρ2 S2) (OutP c B D), ⟨n, Ψ, ρ, S, F, g, q⟩, ?_⟩
  rintro n σ2 H2 ⟨Ψ2, ρ2, S2, F2, g2, q2⟩
  cases n with
  | zero => exact q2.elim
  | succ n =>
    unfold whM at q2
    refine ⟨Ψ2, ρ2, S2, F2, g2.so, g2.eo, ((Post.bd q2).ext g2.x).mono fun b S3 q3 Ψ3 H3 x3 s3 => ?_⟩
    have g3 := g2.ext x3 s3
    cases b with
    | false =>
      show if false = true then _ else _
      rw [if_neg Bool.false_ne_true]
      exact q3 Ψ3 σ2 H3 F2 g3
    | true =>
      show if true = true then _ else _
      rw [if_pos rfl]
      refine ⟨fun σ' H' => ∃ Ψ2 ρ2 S2 F2, Gd c B Ψ2 σ' ρ2 H' F2 S2 ∧ Post c W B.wd B.H (whM mt mb n ρ2 S2) (OutP c B D), fun σ' H' h => ⟨n, Nat.lt_succ_self n, h⟩, ?_⟩
      refine ⟨B, Ψ3, ρ2, S3, F2, g3, (Post.bd q3).mono fun o S4 q4 => ?_⟩
      cases o with
      | nx ρ4 => exact fun Ψ4 σ4 H4 F4 g4 => ⟨Ψ4, ρ4, S4, F4, g4, q4⟩
      | ct ρ4 => exact fun Ψ4 σ4 H4 F4 g4 => ⟨Ψ4, ρ4, S4, F4, g4, q4⟩
      | bk ρ4 => exact q4
      | ret d => exact q4
end
end Sm

/-! text: Sim9 -/
set_option Elab.async false
set_option linter.all false
set_option maxRecDepth 100000
set_option maxHeartbeats 1000000
namespace Sm
open PySem PySem.Spec PyProof.Rows L2

/-! ### a def by its body -/
def outM (o : Out) : M D := match o with
  | .nx _ => rt .non
  | .ret d => rt d
  | _ => stk
def fnM (n : Nat) (mb : Env → M Out) (ds : List D) : M D := bd (mb (ds.map Slot.val ++ List.replicate (n - ds.length) .no)) outM
theorem env_start {c : Cf} {Ψ : Wd} {H : Hp} {N : List Str} {vs : List V} {ds : List D} (r : Reps c Ψ vs ds) : EnvOk c Ψ (L2.start N vs) (ds.map Slot.val ++ List.replicate (N.length - ds.length) .no) H (fun _ => []) := by
  have hl := r.length
  refine ⟨by unfold L2.start; rw [List.length_append, List.length_append, List.length_map, List.length_map, List.length_replicate, List.length_replicate, hl], fun i s hs => ?_, fun _ _ => rfl, fun _ _ h => (by cases h), fun _ _ _ _ h => (by cases h)⟩
  by_cases hi : i < ds.length
  · rw [List.getElem?_append_left (by rw [List.length_map]; exact hi), List.getElem?_map] at hs
    cases hd : ds[i]? with
    | none => rw [hd] at hs; cases hs
    | some d =>
      rw [hd] at hs
      cases hs
      obtain ⟨v, hv, rv⟩ := r.get hd
      refine ⟨rfl, v, ?_, rv⟩
      unfold L2.start
      rw [List.getElem?_append_left (by rw [List.length_map, hl]; exact hi), List.getElem?_map, hv]
      rfl
  · rw [List.getElem?_append_right (by rw [List.length_map]; omega), List.getElem?_replicate] at hs
    split at hs
    · cases hs
      exact rfl
    · cases hs
theorem env_no {n : Nat} {ds : List D} {k : Nat} {fs : List (Option D)} (h : (ds.map Slot.val ++ List.replicate n .no)[0]? = some (.ownI k fs)) : False := by
  cases ds with
  | nil =>
    cases n with
    | zero => cases h
    | succ n => cases h
  | cons d ds => cases h
section
variable {c : Cf} {P : Program} {w : World} {mg : Str → Option Value} {base : Heap} {x qual : Str} {params : Arguments} {body : List Stmt} {scope : Scope} {dvs : List V} {kws : List (Str × V)} {f : Addr} {fd : FuncData} {N ps : List Str} {k : Nat} {mb : Env → M Out}
theorem fnOk_mk (F : FunD c.K x qual params body scope dvs kws f fd) (sc : FnScope N ps scope)
    (hbody : ∀ (cdv : Value) (A : Around) (outer : List PySem.Env) (s : Shared) (H : Hp) (E : XK), Room k (A.deeper (envOfC qual scope s.heap.objs.size f cdv)) → SSs c (cxOf (L2.CX P w) P w c.K mg base N qual scope f cdv A outer s H E) E body mb) :
    FnOk P w c.K mg base (L2.CX P w) (k + 1) f fd ps (PromF c ps.length (fnM N.length mb)) := by
  refine F.ok sc (fun vs H Q E h => h.len) fun cdv A outer s H vs Q E hr h => ⟨_, (hbody cdv A outer s H E hr).p, ?_⟩
  obtain ⟨Ψ, S, ds, so, r, l, q⟩ := h
  refine ⟨⟨Ψ, H, 0⟩, Ψ, _, S, fun _ => [], ⟨Ext.refl _ _, so, env_start r, fun _ _ h => (by cases h), fun k fs h => (env_no h).elim⟩, (Post.bd q).mono fun o S' q' => ?_⟩
  cases o with
  | nx ρ => exact fun Ψ' σ' H' F' g => q' Ψ' .non H' g.x g.so .non
  | ret d => exact q'
  | bk ρ => exact q'.elim
  | ct ρ => exact q'.elim
theorem fn_mk (F : FunD c.K x qual params body scope dvs kws f fd) (sc : FnScope N ps scope) (hb : Binds c.K fd ps [])
    (hbody : ∀ (cdv : Value) (A : Around) (outer : List PySem.Env) (s : Shared) (H : Hp) (E : XK), Room k (A.deeper (envOfC qual scope s.heap.objs.size f cdv)) → SSs c (cxOf (L2.CX P w) P w c.K mg base N qual scope f cdv A outer s H E) E body mb) :
    Fn c P w mg base (k + 1) f ps.length (fnM N.length mb) := by
  refine ⟨?_, F.kp⟩
  have q := (fnOk_mk F sc hbody).raw hb .nil
  exact q.imp fun vs H Q E h => by rw [List.append_nil]; exact h
theorem Fn.mono {n : Nat} {m : List D → M D} {j k : Nat} (F : Fn c P w mg base j f n m) (h : j ≤ k) : Fn c P w mg base k f n m := ⟨F.r.mono h, F.kp⟩
/-- what leaves a def is taken -/
theorem tk_def {cd : Value} {A : Around} {outer : List PySem.Env} {s : Shared} {H : Hp} {E : XK} : Takes (cxOf (L2.CX P w) P w c.K mg base N qual scope f cd A outer s H E) (wx (cW E)) := takes_of rfl rfl rfl rfl
theorem pa_def {cd : Value} {A : Around} {outer : List PySem.Env} {s : Shared} {H : Hp} {E : XK} : PassesOwn (model (cxOf (L2.CX P w) P w c.K mg base N qual scope f cd A outer s H E).prog (cxOf (L2.CX P w) P w c.K mg base N qual scope f cd A outer s H E).w) (cxOf (L2.CX P w) P w c.K mg base N qual scope f cd A outer s H E).A (cxOf (L2.CX P w) P w c.K mg base N qual scope f cd A outer s H E).env (cxOf (L2.CX P w) P w c.K mg base N qual scope f cd A outer s H E).xe := passes_of rfl
/-- within a comprehension nothing is let out -/
theorem tk_in {X : Cx} : Takes X (wx WF) := takes0
end

/-! ### isinstance -/
/-- the name of the type -/
def tyN : D → Option String
  | .non => some "NoneType"
  | .bl _ => some "bool"
  | .int _ => some "int"
  | .str _ => some "str"
  | .tup _ => some "tuple"
  | .lst _ => some "list"
  | .scr _ => some "list"
  | .dct _ => some "dict"
  | _ => none
def kitD (a b : String) : Option Bool := match a, b with
  | "bool", "int" => some true
  | a, b => if ["int", "bool", "str", "tuple", "list", "dict"].contains b = true then some (a == b) else none
def isiD : List D → Sto → Option D := fun ds S => match ds with
  | [d, .ty n] => (tyN d).bind fun a => (kitD a n).map D.bl
  | _ => none
theorem kitD_ok {a b : String} {r : Bool} (ha : ["NoneType", "bool", "int", "str", "tuple", "list", "dict"].contains a = true) (h : kitD a b = some r) : L2.kitB a b = some r := by
  have hb : b ∈ ["int", "bool", "str", "tuple", "list", "dict"] := by
    unfold kitD at h
    split at h
    · simp
    · split at h
      · rename_i q
        simpa using q
      · cases h
  have ha' : a ∈ ["NoneType", "bool", "int", "str", "tuple", "list", "dict"] := by simpa using ha
  have key : ∀ a ∈ ["NoneType", "bool", "int", "str", "tuple", "list", "dict"], ∀ b ∈ ["int", "bool", "str", "tuple", "list", "dict"], L2.kitB a b = kitD a b := by decide +kernel
  rw [key a ha' b hb]
  exact h
theorem ty_of {c : Cf} {Ψ : Wd} {H : Hp} {S : Sto} {v : V} {d : D} {a : String} (so : StoOk c Ψ H S) (r : RepH c Ψ H v d) (h : tyN d = some a) : L2.TyX c.K H v (.type a) ∧ ["NoneType", "bool", "int", "str", "tuple", "list", "dict"].contains a = true := by
  have key : ∀ x, ["NoneType", "bool", "int", "str", "tuple", "list", "dict"].contains x = true → x = a → ["NoneType", "bool", "int", "str", "tuple", "list", "dict"].contains a = true := fun x h e => by rw [← e]; exact h
  rcases r with r | ⟨b, vs, ds, rfl, rfl, h1, _, _⟩
  · cases r with
    | non => cases h; exact ⟨.base .non, by decide⟩
    | bl x => cases h; exact ⟨.base (.bl x), by decide⟩
    | int x => cases h; exact ⟨.base (.int x), by decide⟩
    | str x => cases h; exact ⟨.base (.str x), by decide⟩
    | tup q l r =>
      cases h
      refine ⟨?_, by decide⟩
      rcases sqT_phi so q with (q | ⟨o, q⟩) | ⟨o, its, n, q1, q2, _⟩
      · exact .base (.tup q)
      · exact .fTuple q
      · exact .kTuple q1 q2
    | lst q l r => cases h; exact ⟨.base (.lst (so.phi _ _ q)), by decide⟩
    | scr q l r =>
      cases h
      refine ⟨?_, by decide⟩
      rcases sqL_phi so q with (q | ⟨o, q⟩) | ⟨o, its, n, q1, q2, _⟩
      · exact .base (.lst q)
      · exact .base (.frz q)
      · exact .kList q1 q2
    | dct q e r => cases h; exact ⟨.base (.dK (so.phi _ _ q)), by decide⟩
    | _ => cases h
  · cases h
    exact ⟨.base (.lst h1), by decide⟩
theorem vc_isi {c : Cf} : VC c (L2.rIsi c.K) isiD := by
  intro Ψ H S xs ds d Q s r e q
  unfold isiD at e
  split at e
  · rename_i d0 n
    cases ha : tyN d0 with
    | none => rw [ha] at e; cases e
    | some a =>
      rw [ha] at e
      have e' : (kitD a n).map D.bl = some d := e
      cases hb : kitD a n with
      | none => rw [hb] at e'; cases e'
      | some b =>
        rw [hb] at e'
        cases e'
        obtain ⟨v, v', rfl, r1, r2⟩ := r.two
        obtain ⟨t1, t2⟩ := ty_of s r1 ha
        have ev : v' = .ty n := by
          rcases r2 with r2 | ⟨_, _, _, _, z, _⟩
          · cases r2; rfl
          · cases z
        subst ev
        exact ⟨v, .ty n, _, _, b, rfl, .ty n, t1, L2.kit_ty (kitD_ok t2 hb), fin0 s q (.bl b)⟩
  · cases e
/-- the own classes, by number: 0 .. n - 1 -/
structure CF (c : Cf) (n : Nat) : Prop where
  sc : ∀ k, k < n → SlX.SCls c.K (c.cls k)
  si : ∀ k, k < n → SlX.SIsi c.K (c.cls k)
  kt : ∀ k j, k < n → j < n → PySem.W.kitOne c.K (.ref (c.cls k)) (.ref (c.cls j)) = some (decide (k = j))
  kb : ∀ j, j < n → ∀ a, a ∈ ["NoneType", "bool", "int", "str", "tuple", "list", "dict"] → PySem.W.kitOne c.K (.type a) (.ref (c.cls j)) = some false
/-- isinstance(x, an own class) -/
def isoD (n : Nat) : List D → Sto → Option D := fun ds _ => match ds with
  | [.ins k _, .cls j] => if k < n ∧ j < n then some (.bl (decide (k = j))) else none
  | [d, .cls j] => match tyN d with
    | some _ => if j < n then some (.bl false) else none
    | none => none
  | _ => none
theorem vc_iso {c : Cf} {n : Nat} (C : CF c n) : VC c (fun xs H Q => (∃ u, SlX.rIsiSl c.K u xs H Q) ∨ L2.rIsi c.K xs H Q) (isoD n) := by
  intro Ψ H S xs ds d Q s r e q
  unfold isoD at e
  split at e
  · rename_i k fs j
    split at e
    · cases e
      rename_i z
      obtain ⟨v, v', rfl, r1, r2⟩ := r.two
      have ev : v' = .ref (c.cls j) := by
        rcases r2 with r2 | ⟨_, _, _, _, z, _⟩
        · cases r2; rfl
        · cases z
      subst ev
      rcases r1 with r1 | ⟨_, _, _, _, z, _⟩
      · cases r1 with
        | ins h rs =>
          rename_i a dx vs
          have hs : SlX.Slt H a (c.cls k) dx (vs.map some) := Slt.keep h fun b _ o ho => s.phi b o ho
          exact .inl ⟨.ref (c.cls j), a, c.cls k, dx, _, .ref (c.cls j), _, rfl, rfl, fun w hw => hw, hs, C.sc k z.1, C.si k z.1, C.kt k j z.1 z.2, fin0 s q (.bl _)⟩
      · cases z
    · cases e
  · rename_i d0 j _
    split at e
    · rename_i a ha
      split at e
      · rename_i hj
        cases e
        obtain ⟨v, v', rfl, r1, r2⟩ := r.two
        obtain ⟨t1, t2⟩ := ty_of s r1 ha
        have ev : v' = .ref (c.cls j) := by
          rcases r2 with r2 | ⟨_, _, _, _, z, _⟩
          · cases r2; rfl
          · cases z
        subst ev
        exact .inr ⟨v, _, _, _, false, rfl, .own _, t1, C.kb j hj a (by simpa using t2), fin0 s q (.bl _)⟩
      · cases e
    · cases e
  · cases e
theorem call_iso {X : Cx} : CallR X (.builtin "isinstance") (fun xs H Q => (∃ u, SlX.rIsiSl X.K u xs H Q) ∨ L2.rIsi X.K xs H Q) := by
  intro pins s σ H xs us Q I r h
  rcases h with ⟨u, h⟩ | h
  · exact SlX.call_isiSl u pins s σ H xs us Q I r h
  · exact L2.call_isi pins s σ H xs us Q I r h
end Sm

/-! text: Sim10 -/
set_option Elab.async false
set_option linter.all false
set_option maxRecDepth 100000
set_option maxHeartbeats 1000000
namespace Sm
open PySem PySem.Spec PyProof.Rows L2

/-! ### several new things at once -/
/-- values and new lists (at As) -/
inductive MReps (c : Cf) (Ψ : Wd) (H0 H : Hp) : List V → List Slot → List Addr → Prop
  | nil : MReps c Ψ H0 H [] [] []
  | val {v : V} {d : D} {vs : List V} {ss : List Slot} {As : List Addr} (h : Rep c Ψ v d) (t : MReps c Ψ H0 H vs ss As) : MReps c Ψ H0 H (v :: vs) (.val d :: ss) As
  | own {a : Addr} {xs : List V} {ds : List D} {vs : List V} {ss : List Slot} {As : List Addr} (h : H a = some (.lst xs)) (l : xs.length ≤ LIM) (r : Reps c Ψ xs ds) (p : Ψ.fz a = none) (f : ¬ Foot Ψ a) (n : H0 a = none) (na : a ∉ As)
      (t : MReps c Ψ H0 H vs ss As) : MReps c Ψ H0 H (.ref a :: vs) (.own ds :: ss) (a :: As)
def rAM (c : Cf) (W : L2.St → XK) (m : Env → M (List Slot)) : TA := fun σ H Q => ∃ Ψ ρ S F, StoOk c Ψ H S ∧ EnvOk c Ψ σ ρ H F ∧
  Post c (W σ) Ψ H (m ρ S) fun ss S' => ∀ Ψ' vs As H', Ext Ψ H Ψ' H' → StoOk c Ψ' H' S' → MReps c Ψ' H H' vs ss As → Q vs H'
structure SAM (c : Cf) (X : Cx) (W : L2.St → XK) (es : List Expr) (m : Env → M (List Slot)) : Prop where
  k : X.K = c.K
  p : PA X es (rAM c W m)
section
variable {c : Cf} {X : Cx} {W : L2.St → XK} {e : Expr} {es : List Expr}
theorem MReps.mem {Ψ : Wd} {H0 H : Hp} {vs : List V} {ss : List Slot} {As : List Addr} (h : MReps c Ψ H0 H vs ss As) : ∀ b ∈ As, H0 b = none ∧ Ψ.fz b = none ∧ ¬ Foot Ψ b ∧ H b ≠ none := by
  induction h with
  | nil => intro b hb; cases hb
  | val _ _ ih => exact ih
  | own h l r p f n na t ih =>
    intro b hb
    rcases List.mem_cons.mp hb with rfl | hb
    · exact ⟨n, p, f, by rw [h]; exact fun z => nomatch z⟩
    · exact ih b hb
/-- seen from further back -/
theorem MReps.back {Ψ : Wd} {H00 H0 H : Hp} {vs : List V} {ss : List Slot} {As : List Addr} (h : MReps c Ψ H0 H vs ss As) (k : ∀ b, H0 b = none → H00 b = none) : MReps c Ψ H00 H vs ss As := by
  induction h with
  | nil => exact .nil
  | val h _ ih => exact .val h ih
  | own h l r p f n na t ih => exact .own h l r p f (k _ n) na ih
theorem sam_nil (k : X.K = c.K) : SAM c X W [] (fun _ => rt []) := ⟨k, PA.imp pa_nil fun σ H Q ⟨Ψ, ρ, S, F, so, eo, q⟩ => q Ψ [] [] H (Ext.refl _ _) so .nil⟩
theorem sam_val {m : Env → M D} {ms : Env → M (List Slot)} (h : SE c X W e m) (t : SAM c X W es ms) (hs : starEach (e :: es) X.env = (false, eval e X.env) :: starEach es X.env := by rfl) :
    SAM c X W (e :: es) (fun ρ => bd (m ρ) fun d => bd (ms ρ) fun ss => rt (.val d :: ss)) := by
  refine ⟨h.k, PA.imp (pa_cons h.p t.p hs) fun σ H Q ⟨Ψ, ρ, S, F, so, eo, q⟩ => ⟨Ψ, ρ, S, F, so, eo, q.bd.mono fun d S1 q1 Ψ1 x H1 e1 so1 r1 => ?_⟩⟩
  refine ⟨Ψ1, ρ, S1, F, so1, eo.ext e1, (q1.ext e1).bd.mono fun ss S2 q2 Ψ2 xs As H2 e2 so2 r2 => ?_⟩
  exact q2 Ψ2 _ As H2 (e1.trans e2) so2 (.val (r1.mono e2.le) (r2.back e1.dom))
theorem sam_own {m : Env → M (List D)} {ms : Env → M (List Slot)} (h : SN c X W e m) (t : SAM c X W es ms) (hs : starEach (e :: es) X.env = (false, eval e X.env) :: starEach es X.env := by rfl) :
    SAM c X W (e :: es) (fun ρ => bd (m ρ) fun ds => bd (ms ρ) fun ss => rt (.own ds :: ss)) := by
  refine ⟨h.k, PA.imp (pa_cons h.p t.p hs) fun σ H Q ⟨Ψ, ρ, S, F, so, eo, q⟩ => ⟨Ψ, ρ, S, F, so, eo, q.bd.mono fun ds S1 q1 Ψ1 a vs H1 e1 so1 h1 l1 r1 p1 f1 n1 => ?_⟩⟩
  refine ⟨Ψ1, ρ, S1, F, so1, eo.ext e1, (q1.ext e1).bd.mono fun ss S2 q2 Ψ2 xs As H2 e2 so2 r2 => ?_⟩
  have fr := e2.free p1 f1 (by rw [h1]; exact fun z => nomatch z)
  refine q2 Ψ2 _ (a :: As) H2 (e1.trans e2) so2 (.own (e2.keep _ _ h1 f1) l1 (r1.mono e2.le) fr.1 fr.2 n1 (fun z => ?_) (r2.back e1.dom))
  have := (r2.mem a z).1
  rw [h1] at this
  cases this
def setsM : Env → List Nat → List Slot → Env
  | ρ, i :: is, s :: ss => setsM (ρ.set i s) is ss
  | ρ, _, _ => ρ
theorem Gd.setsM {B : Bs} {Ψ : Wd} {H0 H : Hp} {S : Sto} (bk : ∀ b, H0 b = none → B.H b = none) {vs : List V} {ss : List Slot} {As : List Addr} (h : MReps c Ψ H0 H vs ss As) :
    ∀ {is : List Nat} {σ : L2.St} {ρ : Env} {F : Nat → List Addr}, Gd c B Ψ σ ρ H F S → (∀ b ∈ As, ∀ j, b ∉ F j) → ∃ F', Gd c B Ψ (setsS σ is vs) (Sm.setsM ρ is ss) H F' S := by
  induction h with
  | nil => intro is σ ρ F g _; cases is <;> exact ⟨F, g⟩
  | val h t ih =>
    intro is σ ρ F g hF
    cases is with
    | nil => exact ⟨F, g⟩
    | cons i is =>
      obtain ⟨F', g'⟩ := ih (is := is) (g.setV i h) fun b hb j hj => hF b hb j (off_sub hj).1
      exact ⟨F', g'⟩
  | own h l r p f n na t ih =>
    intro is σ ρ F g hF
    cases is with
    | nil => exact ⟨F, g⟩
    | cons i is =>
      rename_i a xs ds vs ss As
      have hn : H a ≠ none := by rw [h]; exact fun z => nomatch z
      by_cases hi : i < ρ.length
      · have g1 : Gd c B Ψ (σ.set i (some (.ref a))) (ρ.set i (.own ds)) H (onF F i [a]) S := by
          refine ⟨g.x, g.so, g.eo.setO i hi ⟨a, xs, rfl, rfl, h, l, r⟩ (fun b hb => ?_) (fun b hb j _ hj => ?_), fun j b hb => ?_, fun k fs hk => ?_⟩
          · rcases List.mem_singleton.mp hb with rfl
            exact ⟨p, f, hn⟩
          · rcases List.mem_singleton.mp hb with rfl
            exact hF b List.mem_cons_self j hj
          · by_cases z : j = i
            · subst z
              rw [onF_eq] at hb
              rcases List.mem_singleton.mp hb with rfl
              exact bk _ n
            · rw [onF_ne z] at hb
              exact g.fr j b hb
          · rcases set0 hk with ⟨_, z⟩ | ⟨n, z⟩
            · cases z
            · rw [List.getElem?_set_ne n]; exact g.me k fs z
        obtain ⟨F', g'⟩ := ih (is := is) g1 fun b hb j hj => by
          by_cases z : j = i
          · subst z
            rw [onF_eq] at hj
            rcases List.mem_singleton.mp hj with rfl
            exact na hb
          · rw [onF_ne z] at hj
            exact hF b (List.mem_cons_of_mem _ hb) j hj
        exact ⟨F', g'⟩
      · have hl := g.eo.len
        obtain ⟨F', g'⟩ := ih (is := is) g fun b hb j hj => hF b (List.mem_cons_of_mem _ hb) j hj
        refine ⟨F', ?_⟩
        show Gd c B Ψ (setsS (σ.set i (some (.ref a))) is vs) (Sm.setsM (ρ.set i (.own ds)) is ss) H F' S
        rw [List.set_eq_of_length_le (l := σ) (by omega), List.set_eq_of_length_le (l := ρ) (by omega)]
        exact g'
end
section
variable {c : Cf} {X : Cx} {W : XK} {pos pos' apos cpos : Pos} {i j l : Nat} {x y z : Str} {a b d e : Expr}
theorem ss_par {ma : Env → M (List Slot)} {px py pt : Pos} {kt k2 pt2} (ha : SAM c X (cW W) [a, b] ma) (hN : X.N.Nodup) (hi : X.N[i]? = some x := by rfl) (hj : X.N[j]? = some y := by rfl) (hij : i ≠ j := by decide)
    (hx : X.env.scope.names.lookup x = some .local := by rfl) (hy : X.env.scope.names.lookup y = some .local := by rfl)
    (hw : swappedStores [.Tuple [.Name x px, .Name y py] kt pt] (.Tuple [a, b] k2 pt2) X.env = pure (some [x, y]) := by rfl)
    (hs : swapsWithSole [.Tuple [.Name x px, .Name y py] kt pt] (.Tuple [a, b] k2 pt2) pos.line X.env = pure false := by rfl) (hc : X.calm = true := by rfl) :
    SS c X W (.Assign [.Tuple [.Name x px, .Name y py] kt pt] (.Tuple [a, b] k2 pt2) pos) (fun ρ => bd (ma ρ) fun ss => fun S => if ss.length = 2 then .ok (.nx (setsM ρ [i, j] ss)) S else .stuck) := by
  refine ⟨ha.k, PS.imp (ps_par hc hN hi hj hij hx hy ha.p hw hs) fun D σ H ⟨B, Ψ, ρ, S, F, g, q⟩ => ⟨Ψ, ρ, S, F, g.so, g.eo, (q.bd.ext g.x).mono fun ss S1 q1 Ψ1 vs As H1 x1 s1 r1 => ?_⟩⟩
  split at q1
  · rename_i h2
    obtain ⟨F', g'⟩ := Gd.setsM (is := [i, j]) (fun b hb => g.x.dom b hb) r1 (g.ext x1 s1) fun b hb k hk => (g.eo.priv k b hk).2.2 (r1.mem b hb).1
    cases r1 with
    | nil => cases h2
    | val h t =>
      cases t with
      | nil => cases h2
      | val h' t' =>
        cases t' with
        | nil => exact ⟨_, _, rfl, q1 Ψ1 _ H1 F' g'⟩
        | _ => cases h2
      | own _ _ _ _ _ _ _ t' =>
        cases t' with
        | nil => exact ⟨_, _, rfl, q1 Ψ1 _ H1 F' g'⟩
        | _ => cases h2
    | own _ _ _ _ _ _ _ t =>
      cases t with
      | nil => cases h2
      | val h' t' =>
        cases t' with
        | nil => exact ⟨_, _, rfl, q1 Ψ1 _ H1 F' g'⟩
        | _ => cases h2
      | own _ _ _ _ _ _ _ t' =>
        cases t' with
        | nil => exact ⟨_, _, rfl, q1 Ψ1 _ H1 F' g'⟩
        | _ => cases h2
  · exact q1.elim
theorem MReps.len {Ψ : Wd} {H0 H : Hp} {vs : List V} {ss : List Slot} {As : List Addr} (h : MReps c Ψ H0 H vs ss As) : vs.length = ss.length := by
  induction h with
  | nil => rfl
  | val _ _ ih => rw [List.length_cons, List.length_cons, ih]
  | own _ _ _ _ _ _ _ _ ih => rw [List.length_cons, List.length_cons, ih]
theorem ss_par3 {ma : Env → M (List Slot)} {px py pz pt : Pos} {kt k2 pt2} (ha : SAM c X (cW W) [a, b, d] ma) (hN : X.N.Nodup) (hi : X.N[i]? = some x := by rfl) (hj : X.N[j]? = some y := by rfl) (hl : X.N[l]? = some z := by rfl) (hij : i ≠ j := by decide) (hil : i ≠ l := by decide) (hjl : j ≠ l := by decide)
    (hx : X.env.scope.names.lookup x = some .local := by rfl) (hy : X.env.scope.names.lookup y = some .local := by rfl) (hz : X.env.scope.names.lookup z = some .local := by rfl)
    (hw : swappedStores [.Tuple [.Name x px, .Name y py, .Name z pz] kt pt] (.Tuple [a, b, d] k2 pt2) X.env = pure (some [x, y, z]) := by rfl)
    (hs : swapsWithSole [.Tuple [.Name x px, .Name y py, .Name z pz] kt pt] (.Tuple [a, b, d] k2 pt2) pos.line X.env = pure false := by rfl) (hc : X.calm = true := by rfl) :
    SS c X W (.Assign [.Tuple [.Name x px, .Name y py, .Name z pz] kt pt] (.Tuple [a, b, d] k2 pt2) pos) (fun ρ => bd (ma ρ) fun ss => fun S => if ss.length = 3 then .ok (.nx (setsM ρ [i, j, l] ss)) S else .stuck) := by
  refine ⟨ha.k, PS.imp (ps_par3 hc hN hi hj hl hij hil hjl hx hy hz ha.p hw hs) fun D σ H ⟨B, Ψ, ρ, S, F, g, q⟩ => ⟨Ψ, ρ, S, F, g.so, g.eo, (q.bd.ext g.x).mono fun ss S1 q1 Ψ1 vs As H1 x1 s1 r1 => ?_⟩⟩
  split at q1
  · rename_i h2
    obtain ⟨F', g'⟩ := Gd.setsM (is := [i, j, l]) (fun b hb => g.x.dom b hb) r1 (g.ext x1 s1) fun b hb k hk => (g.eo.priv k b hk).2.2 (r1.mem b hb).1
    have hv : vs.length = 3 := by rw [r1.len]; exact h2
    match vs, hv with
    | [u, v, w], _ => exact ⟨u, v, w, rfl, q1 Ψ1 _ H1 F' g'⟩
  · exact q1.elim

/-! ### the own list at place i -/
def ownAt (ρ : Env) (i : Nat) : M (List D) := fun S => match ρ[i]? with
  | some (.own ds) => .ok ds S
  | _ => .stuck
theorem own_at {B : Bs} {Ψ : Wd} {σ : L2.St} {ρ : Env} {H : Hp} {F : Nat → List Addr} {S : Sto} {α : Type} {R : α → Sto → Prop} {f : List D → M α} {V0 : XK} {Ψ0 : Wd} {H0 : Hp} (g : Gd c B Ψ σ ρ H F S) (q : Post c V0 Ψ0 H0 (bd (ownAt ρ i) f S) R) :
    ∃ ds a vs, ρ[i]? = some (.own ds) ∧ a ∈ F i ∧ F i = [a] ∧ σ[i]? = some (some (.ref a)) ∧ H a = some (.lst vs) ∧ vs.length ≤ LIM ∧ Reps c Ψ vs ds ∧ Post c V0 Ψ0 H0 (f ds S) R := by
  have q' := q.bd
  unfold ownAt at q'
  split at q'
  · rename_i ds hs
    obtain ⟨a, vs, hF, h1, h2, l, h3⟩ := g.eo.slot i _ hs
    exact ⟨ds, a, vs, hs, by rw [hF]; simp, hF, h1, h2, l, h3, q'⟩
  · exact q'.elim
theorem Gd.setOwn {B : Bs} {Ψ : Wd} {σ : L2.St} {ρ : Env} {H : Hp} {F : Nat → List Addr} {S : Sto} (g : Gd c B Ψ σ ρ H F S) {ds es : List D} {a : Addr} {ws : List V} (hs : ρ[i]? = some (.own ds)) (hF : F i = [a]) (h1 : σ[i]? = some (some (.ref a))) (l : ws.length ≤ LIM) (r : Reps c Ψ ws es) :
    Gd c B Ψ σ (ρ.set i (.own es)) (L2.upd H a (.lst ws)) F S :=
  g.upd hs (by rw [hF]; simp) ⟨a, ws, hF, h1, upd_same, l, r⟩ (fun _ _ z => nomatch z)
/-- x.append(e) -/
theorem ss_append {m : Env → M D} {px : Pos} (h : SE c X (cW W) e m) (hN : X.N[i]? = some x := by rfl) (hv : Vis X.env.scope x := by first | exact Or.inl rfl | exact Or.inr (Or.inl rfl) | exact Or.inr (Or.inr rfl)) (hd : (x == ("__debug__" : Str)) = false := by decide)
    (hcd : (x == ("__classdict__" : Str)) = false := by decide) (hbase : attributeBase (.Name x px) "append" X.env (eval (.Name x px) X.env) = eval (.Name x px) X.env := by rfl)
    (hfew : ((backTo cpos (starEach [e] X.env)).all (fun x => !x.1) && (backToKw cpos (keywordEach [] X.env)).all (fun x => x.1.isSome)
      && decide ([e].length + ([] : List Keyword).length + (if ([] : List Keyword).isEmpty then 0 else 1) < 30)) = true := by rfl)
    (hline : (apos.endLine == cpos.line) = true := by rfl) (hs : starEach [e] X.env = (false, eval e X.env) :: starEach [] X.env := by rfl) (hplain : (backTo cpos (starEach [] X.env)).any (·.1) = false := by rfl)
    (hsw : swapsWith (.Call (.Attribute (.Name x px) "append" apos) [e] [] cpos) none pos.line X.env = pure false := by rfl) :
    SS c X W (.Expr (.Call (.Attribute (.Name x px) "append" apos) [e] [] cpos) pos) (fun ρ => bd (ownAt ρ i) fun ds => bd (m ρ) fun d => fun S => if ds.length < LIM then .ok (.nx (ρ.set i (.own (ds ++ [d])))) S else .stuck) := by
  refine ⟨h.k, PS.imp (ps_expr (pe_bm PySem.F.plainAttrs_list PySem.F.slot_list_append PySem.F.type_list_append mt_append (pe_var hN hv hd hcd) (pa_cons h.p pa_nil hs) hbase hfew hline hs hplain) hsw) fun D σ H ⟨B, Ψ, ρ, S, F, g, q⟩ => ?_⟩
  obtain ⟨ds, a, vs, hr, ha, hF, h1, h2, l, r, q⟩ := own_at g q
  refine ⟨.ref a, h1, .inl ⟨rfl, vs, SqL.of h2⟩, Ψ, ρ, S, F, g.so, g.eo, (q.bd.ext g.x).mono fun d S1 q1 Ψ1 v H1 x1 s1 r1 => ?_⟩
  have h2' : H1 a = some (.lst vs) := x1.keep _ _ h2 (g.eo.priv i a ha).2.1
  split at q1
  · rename_i hl
    refine ⟨a, vs, v, rfl, rfl, h2', lim_lt (by rw [r.length]; exact hl), ?_⟩
    exact q1 Ψ1 σ _ F ((g.ext x1 s1).setOwn hr hF h1 (by rw [List.length_append, r.length]; exact hl) ((r.mono x1.le).app (.cons r1 .nil)))
  · exact q1.elim
/-- x.insert(k, e) -/
theorem ss_insert {m : Env → M (List D)} {px : Pos} {e1 e2 : Expr} (h : SA c X (cW W) [e1, e2] m) (hN : X.N[i]? = some x := by rfl) (hv : Vis X.env.scope x := by first | exact Or.inl rfl | exact Or.inr (Or.inl rfl) | exact Or.inr (Or.inr rfl)) (hd : (x == ("__debug__" : Str)) = false := by decide)
    (hcd : (x == ("__classdict__" : Str)) = false := by decide) (hbase : attributeBase (.Name x px) "insert" X.env (eval (.Name x px) X.env) = eval (.Name x px) X.env := by rfl)
    (hfew : ((backTo cpos (starEach [e1, e2] X.env)).all (fun x => !x.1) && (backToKw cpos (keywordEach [] X.env)).all (fun x => x.1.isSome)
      && decide ([e1, e2].length + ([] : List Keyword).length + (if ([] : List Keyword).isEmpty then 0 else 1) < 30)) = true := by rfl)
    (hline : (apos.endLine == cpos.line) = true := by rfl) (hs : starEach [e1, e2] X.env = (false, eval e1 X.env) :: starEach [e2] X.env := by rfl) (hplain : (backTo cpos (starEach [e2] X.env)).any (·.1) = false := by rfl)
    (hsw : swapsWith (.Call (.Attribute (.Name x px) "insert" apos) [e1, e2] [] cpos) none pos.line X.env = pure false := by rfl) :
    SS c X W (.Expr (.Call (.Attribute (.Name x px) "insert" apos) [e1, e2] [] cpos) pos) (fun ρ => bd (ownAt ρ i) fun ds => bd (m ρ) fun as => fun S => match as with
      | [.int k, d] => if ds.length < LIM ∧ 0 ≤ k ∧ k < 100000 then .ok (.nx (ρ.set i (.own (ds.take k.toNat ++ [d] ++ ds.drop k.toNat)))) S else .stuck
      | _ => .stuck) := by
  refine ⟨h.k, PS.imp (ps_expr (pe_bm PySem.F.plainAttrs_list PySem.F.slot_list_insert PySem.F.type_list_insert mt_insert (pe_var hN hv hd hcd) h.p hbase hfew hline hs hplain) hsw) fun D σ H ⟨B, Ψ, ρ, S, F, g, q⟩ => ?_⟩
  obtain ⟨ds, a, vs, hr, ha, hF, h1, h2, l, r, q⟩ := own_at g q
  refine ⟨.ref a, h1, .inl ⟨rfl, vs, SqL.of h2⟩, Ψ, ρ, S, F, g.so, g.eo, (q.bd.ext g.x).mono fun as S1 q1 Ψ1 us H1 x1 s1 r1 => ?_⟩
  have h2' : H1 a = some (.lst vs) := x1.keep _ _ h2 (g.eo.priv i a ha).2.1
  split at q1
  · rename_i k d
    split at q1
    · rename_i hl
      cases r1 with
      | cons rk t =>
        cases rk
        cases t with
        | cons rd t =>
          cases t
          rename_i v
          have rr := r.mono x1.le
          refine ⟨a, vs, k, v, rfl, rfl, h2', lim_lt (by rw [r.length]; exact hl.1), hl.2.1, by omega, ?_⟩
          refine q1 Ψ1 σ _ F ((g.ext x1 s1).setOwn hr hF h1 ?_ (((rr.take k.toNat).app (.cons rd .nil)).app (rr.drop k.toNat)))
          have hl1 := hl.1
          have hr1 := r.length
          rw [List.length_append, List.length_append, List.length_take, List.length_drop, List.length_singleton]
          omega
    · exact q1.elim
  · exact q1.elim
/-- x.pop(k) as a value, at the end of an assignment or alone -/
def popM (ρ : Env) (i : Nat) (m : M D) : M (D × Env) := bd (ownAt ρ i) fun ds => bd m fun a => fun S => match a with
  | .int k => if 0 ≤ k ∧ k < 100000 then match ds[k.toNat]? with
      | some d => .ok (d, ρ.set i (.own (ds.eraseIdx k.toNat))) S
      | none => .stuck
    else .stuck
  | _ => .stuck
theorem pop_r {B : Bs} {Ψ : Wd} {σ : L2.St} {ρ : Env} {H : Hp} {F : Nat → List Addr} {S : Sto} {m : Env → M D} {R : D × Env → Sto → Prop} {Q : VK} {K : PySem.W.Frag} (g : Gd c B Ψ σ ρ H F S) (q : Post c W B.wd B.H (popM ρ i (m ρ) S) R)
    (k : ∀ d ρ' S' Ψ' v H', R (d, ρ') S' → Gd c B Ψ' σ ρ' H' F S' → Rep c Ψ' v d → Q v H') : tBM K "list" rPopAt (tVar i) (tCons (rE c (cW W) m) tNil) σ H Q := by
  unfold popM at q
  obtain ⟨ds, a, vs, hr, ha, hF, h1, h2, l, r, q⟩ := own_at g q
  refine ⟨.ref a, h1, .inl ⟨rfl, vs, SqL.of h2⟩, Ψ, ρ, S, F, g.so, g.eo, (q.bd.ext g.x).mono fun b S1 q1 Ψ1 v H1 x1 s1 r1 => ?_⟩
  have h2' : H1 a = some (.lst vs) := x1.keep _ _ h2 (g.eo.priv i a ha).2.1
  split at q1
  · rename_i kk
    split at q1
    · rename_i hk
      split at q1
      · rename_i d hd
        cases r1
        obtain ⟨y, hy, ry⟩ := r.get hd
        have hlt : kk.toNat < vs.length := (List.getElem?_eq_some_iff.mp hy).1
        have hc : kk < (vs.length : Int) := by omega
        refine ⟨a, vs, kk, kk.toNat, y, rfl, rfl, h2', by omega, by omega, seqIndex_of hk.1 hc, hy, ?_⟩
        refine k d _ S1 Ψ1 y _ q1 ((g.ext x1 s1).setOwn hr hF h1 ?_ ((r.mono x1.le).erase kk.toNat)) (ry.mono x1.le)
        exact Nat.le_trans (List.length_eraseIdx_le ..) l
      · exact q1.elim
    · exact q1.elim
  · exact q1.elim
section
variable {px : Pos} {m : Env → M D} {y : Str} {j : Nat}
theorem ss_pop (h : SE c X (cW W) e m) (hN : X.N[i]? = some x := by rfl) (hv : Vis X.env.scope x := by first | exact Or.inl rfl | exact Or.inr (Or.inl rfl) | exact Or.inr (Or.inr rfl)) (hd : (x == ("__debug__" : Str)) = false := by decide)
    (hcd : (x == ("__classdict__" : Str)) = false := by decide) (hbase : attributeBase (.Name x px) "pop" X.env (eval (.Name x px) X.env) = eval (.Name x px) X.env := by rfl)
    (hfew : ((backTo cpos (starEach [e] X.env)).all (fun x => !x.1) && (backToKw cpos (keywordEach [] X.env)).all (fun x => x.1.isSome)
      && decide ([e].length + ([] : List Keyword).length + (if ([] : List Keyword).isEmpty then 0 else 1) < 30)) = true := by rfl)
    (hline : (apos.endLine == cpos.line) = true := by rfl) (hs : starEach [e] X.env = (false, eval e X.env) :: starEach [] X.env := by rfl) (hplain : (backTo cpos (starEach [] X.env)).any (·.1) = false := by rfl)
    (hsw : swapsWith (.Call (.Attribute (.Name x px) "pop" apos) [e] [] cpos) none pos.line X.env = pure false := by rfl) :
    SS c X W (.Expr (.Call (.Attribute (.Name x px) "pop" apos) [e] [] cpos) pos) (fun ρ => bd (popM ρ i (m ρ)) fun r => rt (.nx r.2)) := by
  refine ⟨h.k, PS.imp (ps_expr (pe_bm PySem.F.plainAttrs_list PySem.F.slot_list_pop PySem.F.type_list_pop mt_popAt (pe_var hN hv hd hcd) (pa_cons h.p pa_nil hs) hbase hfew hline hs hplain) hsw) fun D σ H ⟨B, Ψ, ρ, S, F, g, q⟩ => ?_⟩
  exact pop_r g q.bd fun d ρ' S' Ψ' v H' hR g' r' => hR Ψ' σ H' F g'
theorem ss_setPop {py : Pos} (h : SE c X (cW W) e m) (hNd : X.N.Nodup) (hj : X.N[j]? = some y := by rfl) (hy : Loc X.env.scope y := by first | exact Or.inl rfl | exact Or.inr rfl) (hN : X.N[i]? = some x := by rfl) (hv : Vis X.env.scope x := by first | exact Or.inl rfl | exact Or.inr (Or.inl rfl) | exact Or.inr (Or.inr rfl)) (hd : (x == ("__debug__" : Str)) = false := by decide)
    (hcd : (x == ("__classdict__" : Str)) = false := by decide) (hbase : attributeBase (.Name x px) "pop" X.env (eval (.Name x px) X.env) = eval (.Name x px) X.env := by rfl)
    (hfew : ((backTo cpos (starEach [e] X.env)).all (fun x => !x.1) && (backToKw cpos (keywordEach [] X.env)).all (fun x => x.1.isSome)
      && decide ([e].length + ([] : List Keyword).length + (if ([] : List Keyword).isEmpty then 0 else 1) < 30)) = true := by rfl)
    (hline : (apos.endLine == cpos.line) = true := by rfl) (hs : starEach [e] X.env = (false, eval e X.env) :: starEach [] X.env := by rfl) (hplain : (backTo cpos (starEach [] X.env)).any (·.1) = false := by rfl)
    (hsw : swapsWith (.Call (.Attribute (.Name x px) "pop" apos) [e] [] cpos) (some (.Name y py)) pos.line X.env = pure false := by rfl) (hf : X.fn y = true ∨ X.env.scope.names.lookup y = some .local := by first | exact .inl rfl | exact .inr rfl) :
    SS c X W (.Assign [.Name y py] (.Call (.Attribute (.Name x px) "pop" apos) [e] [] cpos) pos) (fun ρ => bd (popM ρ i (m ρ)) fun r => rt (.nx (r.2.set j (.val r.1)))) := by
  refine ⟨h.k, PS.imp (ps_set hNd hj hy (pe_bm PySem.F.plainAttrs_list PySem.F.slot_list_pop PySem.F.type_list_pop mt_popAt (pe_var hN hv hd hcd) (pa_cons h.p pa_nil hs) hbase hfew hline hs hplain) hsw hf) fun D σ H ⟨B, Ψ, ρ, S, F, g, q⟩ => ?_⟩
  exact pop_r g q.bd fun d ρ' S' Ψ' v H' hR g' r' => hR Ψ' _ H' _ (g'.setV j r')
end
end
end Sm

/-! text: Sim11 -/
set_option Elab.async false
set_option linter.all false
set_option maxRecDepth 100000
set_option maxHeartbeats 1000000
namespace Sm
open PySem PySem.Spec PyProof.Rows L2

/-! ### shared lists: changed, made -/
theorem Ext.updO {Ψ : Wd} {H : Hp} {n : Nat} {p : Addr × Addr} {o : HO} (h : Ψ.sh[n]? = some p) (hp : H p.1 ≠ none) : Ext Ψ H Ψ (L2.upd H p.1 o) where
  le := Le.refl _
  dom := fun b hb => by
    by_cases e : b = p.1
    · subst e; rw [upd_same] at hb; cases hb
    · rw [upd_ne e] at hb; exact hb
  nphi := fun _ _ h => .inl h
  nmu := fun _ h => .inl h
  keep := fun b u hu f => by
    rw [upd_ne (fun e => f ⟨n, p, h, .inl e⟩)]
    exact hu
theorem StoOk.updO {c : Cf} {Ψ : Wd} {H : Hp} {S : Sto} {n : Nat} {ds es : List D} {p : Addr × Addr} {ws : List V} (s : StoOk c Ψ H S) (h : Ψ.sh[n]? = some p) (hs : S[n]? = some (.lst ds)) (l : ws.length ≤ LIM) (r : Reps c Ψ ws es) :
    StoOk c Ψ (L2.upd H p.1 (.lst ws)) (S.set n (.lst es)) where
  phi := fun a o e => by
    have hn := s.off p.1 ⟨n, p, h, .inl rfl⟩
    rw [upd_ne (ne_of_none e hn)]
    exact s.phi a o e
  off := s.off
  nd := s.nd
  len := by rw [List.length_set]; exact s.len
  obj := fun i o e => by
    by_cases z : i = n
    · subst z
      have hl : i < S.length := (List.getElem?_eq_some_iff.mp hs).1
      rw [List.getElem?_set_self hl] at e
      cases e
      obtain ⟨p', h1, vs, _, h3, _, _⟩ := s.obj i _ hs
      rw [h] at h1; cases h1
      exact ⟨p, h, ws, upd_same, h3, l, r⟩
    · rw [List.getElem?_set_ne (Ne.symm z)] at e
      obtain ⟨q, h1, h2⟩ := s.obj i o e
      obtain ⟨n1, n2, n3, n4⟩ := s.nd i n q p h1 h z
      refine ⟨q, h1, ?_⟩
      cases o with
      | lst ds => obtain ⟨vs, x1, x2, x3, x4⟩ := h2; exact ⟨vs, by rw [upd_ne n1]; exact x1, x2, x3, x4⟩
      | ins k fs =>
        obtain ⟨vs, x1, x2, x3, x4⟩ := h2
        refine ⟨vs, Slt.keep x1 fun b hb u hu => ?_, x2, by rw [upd_ne n3]; exact x3, x4⟩
        rcases hb with rfl | rfl
        · rw [upd_ne n1]; exact hu
        · rw [upd_ne n3]; exact hu
def Wd.share (Ψ : Wd) (a : Addr) : Wd := ⟨Ψ.fz, Ψ.sh ++ [(a, a)]⟩
theorem share_foot {Ψ : Wd} {a b : Addr} (h : Foot (Ψ.share a) b) : Foot Ψ b ∨ b = a := by
  obtain ⟨n, p, h1, h2⟩ := h
  have h1' : (Ψ.sh ++ [(a, a)])[n]? = some p := h1
  by_cases z : n < Ψ.sh.length
  · rw [List.getElem?_append_left z] at h1'
    exact .inl ⟨n, p, h1', h2⟩
  · rw [List.getElem?_append_right (by omega)] at h1'
    have hn : n - Ψ.sh.length = 0 := by
      have := (List.getElem?_eq_some_iff.mp h1').1
      simpa using this
    rw [hn] at h1'
    cases h1'
    rcases h2 with h2 | h2 <;> exact .inr h2
theorem Le.share {Ψ : Wd} {a : Addr} : Le Ψ (Ψ.share a) := ⟨fun _ _ h => h, fun n p h => by
  show (Ψ.sh ++ [(a, a)])[n]? = _
  rw [List.getElem?_append_left (List.getElem?_eq_some_iff.mp h).1]
  exact h⟩
theorem Ext.share {Ψ : Wd} {H : Hp} {Ψ' : Wd} {H' : Hp} {a : Addr} (x : Ext Ψ H Ψ' H') (n : H a = none) : Ext Ψ H (Ψ'.share a) H' :=
  ⟨x.le.trans Le.share, x.dom, x.nphi, fun b f => by
    rcases share_foot f with f | rfl
    · exact x.nmu b f
    · exact .inr n, x.keep⟩
theorem StoOk.share {c : Cf} {Ψ : Wd} {H : Hp} {S : Sto} {a : Addr} {vs : List V} {ds : List D} (s : StoOk c Ψ H S) (h : H a = some (.lst vs)) (p : Ψ.fz a = none) (f : ¬ Foot Ψ a) (l : vs.length ≤ LIM) (r : Reps c Ψ vs ds) : StoOk c (Ψ.share a) H (S ++ [.lst ds]) where
  phi := s.phi
  off := fun b hb => by
    rcases share_foot hb with hb | rfl
    · exact s.off b hb
    · exact p
  nd := fun i j q1 q2 h1 h2 ne => by
    have key : ∀ (i : Nat) (q : Addr × Addr), (Ψ.share a).sh[i]? = some q → (Ψ.sh[i]? = some q) ∨ (i = Ψ.sh.length ∧ q = (a, a)) := fun i q e => by
      have e' : (Ψ.sh ++ [(a, a)])[i]? = some q := e
      by_cases z : i < Ψ.sh.length
      · rw [List.getElem?_append_left z] at e'; exact .inl e'
      · rw [List.getElem?_append_right (by omega)] at e'
        have hn : i - Ψ.sh.length = 0 := by
          have := (List.getElem?_eq_some_iff.mp e').1
          simpa using this
        rw [hn] at e'
        exact .inr ⟨by omega, (Option.some.inj e').symm⟩
    rcases key i q1 h1 with k1 | ⟨k1, rfl⟩ <;> rcases key j q2 h2 with k2 | ⟨k2, rfl⟩
    · exact s.nd i j q1 q2 k1 k2 ne
    · have g1 : q1.1 ≠ a := fun z => f ⟨i, q1, k1, .inl z.symm⟩
      have g2 : q1.2 ≠ a := fun z => f ⟨i, q1, k1, .inr z.symm⟩
      exact ⟨g1, g1, g2, g2⟩
    · have g1 : a ≠ q2.1 := fun z => f ⟨j, q2, k2, .inl z⟩
      have g2 : a ≠ q2.2 := fun z => f ⟨j, q2, k2, .inr z⟩
      exact ⟨g1, g2, g1, g2⟩
    · omega
  len := by
    show (Ψ.sh ++ [(a, a)]).length = _
    rw [List.length_append, List.length_append, s.len]; rfl
  obj := fun n o e => by
    by_cases z : n < S.length
    · rw [List.getElem?_append_left z] at e
      obtain ⟨q, h1, h2⟩ := s.obj n o e
      refine ⟨q, Le.share.mu n q h1, ?_⟩
      cases o with
      | lst ds => obtain ⟨vs, x1, x2, x3, x4⟩ := h2; exact ⟨vs, x1, x2, x3, x4.mono Le.share⟩
      | ins k fs => obtain ⟨vs, x1, x2, x3, x4⟩ := h2; exact ⟨vs, x1, x2, x3, x4.mono Le.share⟩
    · rw [List.getElem?_append_right (by omega)] at e
      have hn : n - S.length = 0 := by
        have := (List.getElem?_eq_some_iff.mp e).1
        simpa using this
      rw [hn] at e
      cases e
      refine ⟨(a, a), ?_, vs, h, rfl, l, r.mono Le.share⟩
      show (Ψ.sh ++ [(a, a)])[n]? = _
      have hl := s.len
      have : n = Ψ.sh.length := by omega
      rw [this, List.getElem?_append_right (Nat.le_refl _), Nat.sub_self]
      rfl
section
variable {c : Cf} {X : Cx} {W : XK} {pos pos' apos cpos : Pos} {i j l : Nat} {x y z : Str} {a b d e : Expr}
/-- x = [..], a list that others may change -/
theorem ss_setS {m : Env → M (List D)} (h : SN c X (cW W) e m) (hN : X.N.Nodup) (hi : X.N[i]? = some x := by rfl) (hx : Loc X.env.scope x := by first | exact Or.inl rfl | exact Or.inr rfl) (hs : swapsWith e (some (.Name x pos')) pos.line X.env = pure false := by rfl) (hf : X.fn x = true ∨ X.env.scope.names.lookup x = some .local := by first | exact .inl rfl | exact .inr rfl) :
    SS c X W (.Assign [.Name x pos'] e pos) (fun ρ => bd (m ρ) fun ds => fun S => .ok (.nx (ρ.set i (.val (.ref S.length)))) (S ++ [.lst ds])) :=
  ⟨h.k, PS.imp (ps_set hN hi hx h.p hs hf) fun D σ H ⟨B, Ψ, ρ, S, F, g, q⟩ => ⟨Ψ, ρ, S, F, g.so, g.eo, (q.bd.ext g.x).mono fun ds S1 q1 Ψ1 a vs H1 x1 s1 h1 l1 r1 p1 f1 n1 => by
    have g1 : Gd c B (Ψ1.share a) σ ρ H1 F (S1 ++ [.lst ds]) := g.ext (x1.share n1) (s1.share h1 p1 f1 l1 r1)
    refine q1 (Ψ1.share a) _ H1 _ (g1.setV i (.obj (n := S1.length) (p := (a, a)) ?_))
    show (Ψ1.sh ++ [(a, a)])[S1.length]? = _
    rw [← s1.len, List.getElem?_append_right (Nat.le_refl _), Nat.sub_self]
    rfl⟩⟩
/-- a[k] = v, a shared list or the frame's own -/
def setAt (ρ : Env) (i : Nat) (k : Int) (v : D) : M Out := fun S => match ρ[i]? with
  | some (.val (.ref n)) => match S[n]? with
    | some (.lst ds) => match L2.ixN ds.length k with
      | some j => .ok (.nx ρ) (S.set n (.lst (ds.set j v)))
      | none => .stuck
    | _ => .stuck
  | some (.own ds) => match L2.ixN ds.length k with
    | some j => .ok (.nx (ρ.set i (.own (ds.set j v)))) S
    | none => .stuck
  | _ => .stuck
theorem ss_setIx {m mk : Env → M D} {px : Pos} {kx : Expr} (h : SE c X (cW W) e m) (hk : SE c X (cW W) kx mk) (hN : X.N[i]? = some x := by rfl) (hv : Vis X.env.scope x := by first | exact Or.inl rfl | exact Or.inr (Or.inl rfl) | exact Or.inr (Or.inr rfl)) (hd : (x == ("__debug__" : Str)) = false := by decide)
    (hcd : (x == ("__classdict__" : Str)) = false := by decide)
    (ha : ∀ v, assign (.Subscript (.Name x px) kx pos') X.env v = (do
      let ov ← holding [v] (eval (.Name x px) X.env)
      let iv ← holding [v, ov] (eval kx X.env)
      standAt pos'
      holding [v, ov, iv] (setItem ov iv v)
      release [v, ov, iv] []) := by intro _; rfl)
    (hs : swapsWithSole [.Subscript (.Name x px) kx pos'] e pos.line X.env = pure false := by rfl) (hw : swappedStores [.Subscript (.Name x px) kx pos'] e X.env = pure none := by rfl)
    (h1 : (assignEach [.Subscript (.Name x px) kx pos'] X.env).map (·.2) = [assign (.Subscript (.Name x px) kx pos') X.env] := by rfl) :
    SS c X W (.Assign [.Subscript (.Name x px) kx pos'] e pos) (fun ρ => bd (m ρ) fun v => bd (opt (match ρ[i]? with
      | some (.val (.ref n)) => some ()
      | some (.own ds) => some ()
      | _ => none)) fun _ => bd (mk ρ) fun k => match k with
      | .int k => setAt ρ i k v
      | _ => stk) := by
  refine ⟨h.k, PS.imp (ps_asg h.p (pg_sub (pe_var hN hv hd hcd) hk.p set_list ha) hs hw h1) fun D σ H ⟨B, Ψ, ρ, S, F, g, q⟩ => ?_⟩
  refine ⟨Ψ, ρ, S, F, g.so, g.eo, (q.bd.ext g.x).mono fun v S1 q1 Ψ1 vv H1 x1 s1 r1 => ?_⟩
  have g1 := g.ext x1 s1
  have q2 := q1.bd
  unfold opt at q2
  split at q2
  · rename_i hsome
    have hslot : ∃ w : Addr, σ[i]? = some (some (.ref w)) := by
      split at hsome
      · rename_i n hs
        obtain ⟨_, w, e1, e2⟩ := g1.eo.slot i _ hs
        cases e2
        exact ⟨_, e1⟩
      · rename_i ds hs
        obtain ⟨w, _, _, e1, _⟩ := g1.eo.slot i _ hs
        exact ⟨w, e1⟩
      · cases hsome
    obtain ⟨w, hw1⟩ := hslot
    refine ⟨.ref w, hw1, Ψ1, ρ, S1, F, g1.so, g1.eo, (Post.bd q2 |>.ext g1.x).mono fun k S2 q3 Ψ2 kv H2 x2 s2 r2 => ?_⟩
    have g2 := g1.ext x2 s2
    split at q3
    · rename_i kk
      cases r2
      unfold setAt at q3
      split at q3
      · rename_i n hs
        split at q3
        · rename_i ds hd
          split at q3
          · rename_i jj hj
            obtain ⟨_, w', e1, e2⟩ := g2.eo.slot i _ hs
            rw [hw1] at e1
            cases e1
            cases e2 with
            | obj hp =>
              obtain ⟨p', h3, vs, h4, h5, h6, h7⟩ := g2.so.obj n _ hd
              rw [hp] at h3; cases h3
              refine ⟨_, vs, kk, jj, rfl, rfl, h4, by rw [h7.length]; exact hj, ?_⟩
              have xx : Ext Ψ2 H2 Ψ2 _ := Ext.updO (o := .lst (vs.set jj vv)) hp (by rw [h4]; exact fun z => nomatch z)
              exact q3 Ψ2 σ _ F (g2.ext xx (g2.so.updO hp hd (by rw [List.length_set]; exact h6) (h7.set (r1.mono x2.le) jj)))
          · exact q3.elim
        · exact q3.elim
      · rename_i ds hs
        split at q3
        · rename_i jj hj
          obtain ⟨a, vs, hF, e1, h4, h6, h7⟩ := g2.eo.slot i _ hs
          rw [hw1] at e1
          cases e1
          refine ⟨w, vs, kk, jj, rfl, rfl, h4, by rw [h7.length]; exact hj, ?_⟩
          exact q3 Ψ2 σ _ F (g2.setOwn hs hF hw1 (by rw [List.length_set]; exact h6) (h7.set (r1.mono x2.le) jj))
        · exact q3.elim
      · exact q3.elim
    · exact q3.elim
  · exact q2.elim

/-! ### own dicts -/
def putL (ks : List (Key × D)) (k : Key) (d : D) : List (Key × D) := if (ks.any fun q => decide (q.1 = k)) = true then ks.map (fun q => if q.1 = k then (q.1, d) else q) else ks ++ [(k, d)]
def getL (ks : List (Key × D)) (k : Key) : Option D := (ks.find? fun q => decide (q.1 = k)).map (·.2)
def mergeL (a b : List (Key × D)) : List (Key × D) := b.foldl (fun acc q => putL acc q.1 q.2) a
inductive KReps (c : Cf) (Ψ : Wd) : List (Key × V) → List (Key × D) → Prop
  | nil : KReps c Ψ [] []
  | cons {k : Key} {v : V} {d : D} {kvs : List (Key × V)} {ks : List (Key × D)} (h : Rep c Ψ v d) (t : KReps c Ψ kvs ks) : KReps c Ψ ((k, v) :: kvs) ((k, d) :: ks)
theorem KReps.to {Ψ : Wd} {kvs : List (Key × V)} {ks : List (Key × D)} (h : KReps c Ψ kvs ks) : kvs.map (·.1) = ks.map (·.1) ∧ Reps c Ψ (kvs.map (·.2)) (ks.map (·.2)) := by
  induction h with
  | nil => exact ⟨rfl, .nil⟩
  | cons h t ih => exact ⟨by rw [List.map_cons, List.map_cons, ih.1], .cons h ih.2⟩
theorem KReps.of {Ψ : Wd} : ∀ {kvs : List (Key × V)} {ks : List (Key × D)}, kvs.map (·.1) = ks.map (·.1) → Reps c Ψ (kvs.map (·.2)) (ks.map (·.2)) → KReps c Ψ kvs ks
  | [], [], _, _ => .nil
  | [], _ :: _, h, _ => by cases h
  | _ :: _, [], h, _ => by cases h
  | (k, v) :: kvs, (k', d) :: ks, h, r => by
    rw [List.map_cons, List.map_cons] at h
    injection h with h1 h2
    have h1' : k = k' := h1
    subst h1'
    cases r with
    | cons r t => exact .cons r (KReps.of h2 t)
theorem KReps.any {Ψ : Wd} {kvs : List (Key × V)} {ks : List (Key × D)} (h : KReps c Ψ kvs ks) (k : Key) : (kvs.any fun q => decide (q.1 = k)) = (ks.any fun q => decide (q.1 = k)) := by
  induction h with
  | nil => rfl
  | cons h t ih => rw [List.any_cons, List.any_cons, ih]
theorem KReps.mapK {Ψ : Wd} {kvs : List (Key × V)} {ks : List (Key × D)} {v : V} {d : D} (r : Rep c Ψ v d) (k : Key) (h : KReps c Ψ kvs ks) : KReps c Ψ (kvs.map fun q => if q.1 = k then (q.1, v) else q) (ks.map fun q => if q.1 = k then (q.1, d) else q) := by
  induction h with
  | nil => exact .nil
  | @cons k' v' d' _ _ h t ih =>
    rw [List.map_cons, List.map_cons]
    by_cases e : k' = k
    · rw [if_pos e, if_pos e]; exact .cons r ih
    · rw [if_neg e, if_neg e]; exact .cons h ih
theorem KReps.app {Ψ : Wd} {kvs kvs' : List (Key × V)} {ks ks' : List (Key × D)} (h : KReps c Ψ kvs ks) (h' : KReps c Ψ kvs' ks') : KReps c Ψ (kvs ++ kvs') (ks ++ ks') := by
  induction h with
  | nil => exact h'
  | cons h t ih => exact .cons h ih
theorem KReps.put {Ψ : Wd} {kvs : List (Key × V)} {ks : List (Key × D)} {v : V} {d : D} (h : KReps c Ψ kvs ks) (k : Key) (r : Rep c Ψ v d) : KReps c Ψ (putK kvs k v) (putL ks k d) := by
  unfold putK putL
  rw [h.any k]
  split
  · exact h.mapK r k
  · exact h.app (.cons r .nil)
theorem KReps.get {Ψ : Wd} {kvs : List (Key × V)} {ks : List (Key × D)} (h : KReps c Ψ kvs ks) {k : Key} {d : D} (e : getL ks k = some d) : ∃ v, valV kvs k = some v ∧ Rep c Ψ v d := by
  induction h with
  | nil => cases e
  | @cons k' v' d' kvs ks h t ih =>
    by_cases z : k' = k
    · refine ⟨v', valV_pos z, ?_⟩
      unfold getL at e
      rw [List.find?_cons, decide_eq_true z] at e
      cases e
      exact h
    · have e' : getL ks k = some d := by
        unfold getL at e ⊢
        rw [List.find?_cons, decide_eq_false z] at e
        exact e
      obtain ⟨v, h1, h2⟩ := ih e'
      exact ⟨v, by rw [valV_neg z]; exact h1, h2⟩
theorem KReps.merge {Ψ : Wd} {kvs : List (Key × V)} {ks : List (Key × D)} (h : KReps c Ψ kvs ks) : ∀ {acc : List (Key × V)} {acc' : List (Key × D)}, KReps c Ψ acc acc' → KReps c Ψ (mergeK acc kvs) (mergeL acc' ks) := by
  induction h with
  | nil => intro acc acc' r; exact r
  | cons h t ih => intro acc acc' r; exact ih (r.put _ h)
def keyD : D → Option Key
  | .int i => some (.inl i)
  | .str x => some (.inr x)
  | _ => none
theorem keyD_rep {Ψ : Wd} {v : V} {d : D} {k : Key} (r : Rep c Ψ v d) (h : keyD d = some k) : v = kV k := by
  cases r <;> cases h <;> rfl
end
end Sm

/-! text: Sim12 -/
set_option Elab.async false
set_option linter.all false
set_option maxRecDepth 100000
set_option maxHeartbeats 1000000
namespace Sm
open PySem PySem.Spec PyProof.Rows L2

/-! ### enumerate of a tuple -/
theorem meets_enum1 {v : Value} {o : Obj} {H : Heap → Prop} (B : Begins v o H) :
    Meets (Builtin.«enumerate.__new__» ⟨[.type "enumerate", v], []⟩) (fun _ R s => H s.heap ∧
      R (.ok (.ret (.ref (s.heap.push o).objs.size))) { s with heap := (s.heap.push o).push { cls := .type "enumerate", data := .fields #[.none, .bool false, .ref s.heap.objs.size, rawInt 0, .none, .none] } }) :=
  .of_wp fun prog w A R s h => by
    obtain ⟨hp, g, d, tk, os⟩ := s; obtain ⟨h1, h⟩ := h
    have hsub := sub_enumerate
    have q1 : ∀ {A' : Around} {E : Value → Shared → Prop} {Q : Value → Shared → Prop}, Q (.ref hp.objs.size) ⟨hp.push o, g, d, tk, os⟩ → wpAny (model prog w) A' (pyIter v) Q E ⟨hp, g, d, tk, os⟩ :=
      fun q => B.iter prog w _ _ ⟨hp, g, d, tk, os⟩ _ h1 q
    wp_walk using q1
    refine wpAny_stack_any fun st => wpAny_pure ?_
    split
    · rename_i c _ _ _ _ _
      cases (c == Value.type "enumerate")
      · wp_walk using q1
        exact ⟨_, rfl, h⟩
      · wp_walk using q1
        exact ⟨_, rfl, h⟩
    · wp_walk using q1
      exact ⟨_, rfl, h⟩
section
variable {prog : Program} {w : World} {A : Around} {E : Value → Shared → Prop} {s : Shared}
theorem enum_begins1 {v : Value} {o : Obj} {H : Heap → Prop} {Q : Value → Shared → Prop} (B : Begins v o H) (h1 : H s.heap)
    (h : ∀ h', IsEnum h' (s.heap.objs.size + 1) s.heap.objs.size 0 .none → h'.get? s.heap.objs.size = some o → h'.objs.size = s.heap.objs.size + 2 →
      (∀ b o, s.heap.get? b = some o → h'.get? b = some o) → Q (.ref (s.heap.objs.size + 1)) { s with heap := h' }) :
    wpAny (model prog w) A (call (.type "enumerate") [v]) Q E s := by
  refine callType_new F.called_enumerate (by decide) (F.typeCall_enumerate_1 _) (F.newCall_enumerate_1 _) (fun obj => F.args_object_init_2 obj _) F.entry_enumerate_new
    (meets_enum1 B) ⟨h1, ?_⟩
  have hz : (s.heap.push o).objs.size = s.heap.objs.size + 1 := Heap.size_push ..
  show _ ∧ _
  rw [hz]
  have he : IsEnum ((s.heap.push o).push { cls := .type "enumerate", data := .fields #[.none, .bool false, .ref s.heap.objs.size, rawInt 0, .none, .none] }) (s.heap.objs.size + 1) s.heap.objs.size 0 .none := by
    have := Heap.get?_push_size (s.heap.push o) (o := { cls := .type "enumerate", data := .fields #[.none, .bool false, .ref s.heap.objs.size, rawInt 0, .none, .none] }) rfl
    rw [hz] at this; exact this
  refine ⟨⟨_, he, rfl⟩, h _ he (Heap.get?_push_of_some _ (Heap.get?_push_size _ B.free)) (by rw [Heap.size_push, hz]) fun b o x => Heap.get?_push_of_some _ (Heap.get?_push_of_some _ x)⟩
end
def IteT (K : PySem.W.Frag) (a : Addr) : It :=
  ⟨fun i H => ∃ (xs : List V) (x : V), SqT K H a xs ∧ xs[i]? = some x, fun i H v H' => ∃ T x, v = .ref T ∧ H T = none ∧ H' = upd H T (.tup [.int (i : Nat), x]) ∧ ∀ xs, SqT K H a xs → xs[i]? = some x, fun i H => ∃ xs : List V, SqT K H a xs ∧ xs.length = i⟩
theorem turn_enumT {P : Program} {w : World} {K : PySem.W.Frag} {elts : List Expr} {kk : Nat} {tpos : Pos} (a e it : Addr) (hne : e ≠ it) :
    Turn P w K (.Tuple elts kk tpos) (IteT K a) [e, it] e (fun i h => (∃ old, IsEnum h e it ((i : Nat) : Int) old) ∧ h.IsTupleIter it a i) where
  mem := by simp
  obj := fun i h st b hb => by
    obtain ⟨⟨old, he⟩, ⟨o, ho, hc, hd⟩⟩ := st
    have e' : b = e ∨ b = it := by simpa using hb
    rcases e' with z | z
    · rw [z]; exact ⟨_, he, fun v q => nomatch q⟩
    · rw [z]; exact ⟨o, ho, fun v q => by rw [hd] at q; cases q⟩
  keep := fun i h h' st k => let ⟨⟨old, he⟩, hi⟩ := st; ⟨⟨old, k e (by simp) _ he⟩, hi.at fun o q => k it (by simp) o q⟩
  item := by
    intro X hP hw hK hc i pins s σ H E I hf st hg
    subst hP hw hK
    obtain ⟨⟨old, he⟩, hit⟩ := st
    obtain ⟨xs, x, hq, hx⟩ := hg
    obtain ⟨its, rv, p, hz⟩ := I.tuple hq
    obtain ⟨u, hu, ru⟩ := rv.get hx
    have hel : e < s.heap.objs.size := Heap.lt_size he
    have hil : it < s.heap.objs.size := by obtain ⟨_, q, _⟩ := hit; exact Heap.lt_size q
    have hea : e ≠ a := fun z => by
      subst z
      obtain ⟨o, ho, hcl, _⟩ := p
      rw [he] at ho
      cases ho
      exact absurd (Value.type.inj hcl) (by decide)
    have hai : a ≠ it := fun z => by
      subst z
      obtain ⟨o, ho, hcl, _⟩ := p
      obtain ⟨o', ho', hcl', _⟩ := hit
      rw [ho] at ho'
      cases ho'
      rw [hcl] at hcl'
      exact absurd (Value.type.inj hcl') (by decide)
    have hlt : i < its.toArray.size := by
      have := (List.getElem?_eq_some_iff.mp hu).1
      simpa using this
    refine wpAny_pyNext_enum_itemD (Draws.tuple (A := X.A.in1) (I.ok.hd hc) it a hai its.toArray) he ⟨hit, p⟩ hlt hne (by simp [hne, hea]) fun x' h' tk hx' ho hst' hT hsz hk => ?_
    have ex : x' = u := by
      have h1 : its.toArray[i]? = some x' := hx'
      have h2 : its[i]? = some x' := by simpa using h1
      rw [hu] at h2
      exact (Option.some.inj h2).symm
    subst ex
    obtain ⟨hit', _⟩ := hst'
    refine ⟨_, rfl, wpAny_letOwnedTupleGo_enum (s := { s with heap := h', toks := tk + 1 }) ho fun h'' he' sb => ?_⟩
    have hT2 : h''.get? s.heap.objs.size = some { cls := .type "tuple", data := .seq #[.int i tk, x'] } := (sb.2 _ (Nat.ne_of_gt hel)).trans hT
    have new : ObjOk X.prog X.w (upd H s.heap.objs.size (.tup [.int (i : Nat), x])) h'' s.heap.objs.size (.tup [.int (i : Nat), x]) :=
      ⟨by show 2 ≤ sizeLine; decide, [.int i tk, x'], .cons ⟨_, rfl⟩ (.cons ru .nil), ⟨_, hT2, rfl, _, rfl⟩⟩
    have I1 : Inv X pins σ (upd H s.heap.objs.size (.tup [.int (i : Nat), x])) { s with heap := h'', toks := tk + 1 } :=
      I.turnedNew (ch := [e, it]) (fun b ob hb q => (sb.2 b (fun z => hb (by simp [z]))).trans (hk b ob (fun z => hb (by simp [z])) (fun z => hb (by simp [z])) q)) hf (Nat.le_refl _) new
    refine ⟨.ref s.heap.objs.size, _, I1, rfl, ⟨_, x, rfl, I.hok.fresh (Nat.le_refl _), rfl, fun ys hy => by rw [I.tuple_inj hy hq]; exact hx⟩, ⟨⟨x', ?_⟩, hit'.at fun o q => (sb.2 it (Ne.symm hne)).trans q⟩, fun b hb => ?_⟩
    · have e1 : ((i + 1 : Nat) : Int) = (i : Int) + 1 := by omega
      rw [e1]; exact he'
    · have hb' : b < s.heap.objs.size := by
        have e' : b = e ∨ b = it := by simpa using hb
        rcases e' with z | z
        · rw [z]; exact hel
        · rw [z]; exact hil
      rw [upd_ne (Nat.ne_of_lt hb')]
      exact (hf b hb).1
  done := by
    intro X hP hw hK hc i pins s σ H E I hf st hg
    subst hP hw hK
    obtain ⟨⟨old, he⟩, hit⟩ := st
    obtain ⟨xs, hq, hx⟩ := hg
    obtain ⟨its, rv, p, hz⟩ := I.tuple hq
    obtain ⟨f0, f1, f2, f3, f4, f5⟩ := hf it (by simp)
    have hl := rv.length
    have hai : a ≠ it := fun z => by
      subst z
      obtain ⟨o, ho, hcl, _⟩ := p
      obtain ⟨o', ho', hcl', _⟩ := hit
      rw [ho] at ho'
      cases ho'
      rw [hcl] at hcl'
      exact absurd (Value.type.inj hcl') (by decide)
    have hi : i = its.toArray.size := by simp; omega
    subst hi
    exact wpAny_pyNext_enum_endD (Draws.tuple (A := X.A.in1) (I.ok.hd hc) it a hai its.toArray) he ⟨hit, p⟩ fun h' eb => ⟨rfl, I.turned (t' := s.toks) (fun b o hb q => eb b o hb q) f0 f1 f3 f4 f5⟩
  self := fun A i s Q E st h => let ⟨⟨_, he⟩, _⟩ := st; wpAny_pyIter_enum he h
def iEnumT (K : PySem.W.Frag) (ta : TA) : TI := fun σ H R => ta σ H fun vs H1 => ∃ a xs, vs = [.ref a] ∧ ((SqL K H1 a xs ∧ R (Ite K a) H1) ∨ (SqT K H1 a xs ∧ R (IteT K a) H1))
theorem pi_enumT {X : Cx} {e : Expr} {ta : TA} {p pos tpos : Pos} {elts : List Expr} {kk : Nat} (hg : Gl X "enumerate") (hm : X.mg "enumerate" = none) (ha : PA X [e] ta) (hs : starEach [e] X.env = [(false, eval e X.env)] := by rfl) :
    PI X (.Tuple elts kk tpos) (.Call (.Name "enumerate" p) [e] [] pos) (iEnumT X.K ta) := by
  refine ⟨fun pins s σ H R I h => ?_⟩
  refine Call_ (ld_blt I hg hm boot_enumerate (PyProof.Rows.callWith_type1 (thn (ha.run pos pins s σ H _ I h) fun us s1 ⟨vs, H1, I1, r1, q1⟩ => ?_) hs rfl))
  obtain ⟨a, xs, ex, hq⟩ := q1
  subst ex
  cases r1 with
  | cons r rr =>
    cases rr
    cases r
    have fp2 : ∀ b ∈ [s1.heap.objs.size + 1, s1.heap.objs.size], FpOk X pins H1 b := fun b hb => by
      have e' : b = s1.heap.objs.size + 1 ∨ b = s1.heap.objs.size := by simpa using hb
      have hle : s1.heap.objs.size ≤ b := by
        rcases e' with z | z
        · rw [z]; exact Nat.le_add_right _ _
        · rw [z]; exact Nat.le_refl _
      exact I1.fpOk hle (I1.hok.fresh hle)
    rcases hq with ⟨hq, q⟩ | ⟨hq, q⟩
    · obtain ⟨its, rv, p', hz⟩ := I1.list hq
      refine call_enumerate_list p'.isList fun h' he hit hsz hk => wpAny_pyIter_enum he ?_
      have I2 : Inv X pins σ H1 { s1 with heap := h' } := I1.kept (t' := s1.toks) hk
      exact ⟨s1.heap.objs.size + 1, [s1.heap.objs.size + 1, s1.heap.objs.size], _, _, H1, rfl, I2, turn_enum a (s1.heap.objs.size + 1) s1.heap.objs.size, ⟨⟨.none, he⟩, hit, Nat.succ_ne_self _⟩, fp2, q⟩
    · obtain ⟨its, rv, p', hz⟩ := I1.tuple hq
      refine enum_begins1 (begins_tuple a its.toArray) p' fun h' he hit hsz hk => wpAny_pyIter_enum he ?_
      have I2 : Inv X pins σ H1 { s1 with heap := h' } := I1.kept (t' := s1.toks) hk
      exact ⟨s1.heap.objs.size + 1, [s1.heap.objs.size + 1, s1.heap.objs.size], _, _, H1, rfl, I2, turn_enumT a (s1.heap.objs.size + 1) s1.heap.objs.size (Nat.succ_ne_self _), ⟨⟨.none, he⟩, ⟨_, hit, rfl, rfl⟩⟩, fp2, q⟩
theorem walk_enumT {K : PySem.W.Frag} {a : Addr} {xs : List V} : Walk (IteT K a) xs.length (fun H => SqT K H a xs) (YPair (fun i => some (.int (i : Nat))) (fun i => xs[i]?)) := by
  refine ⟨fun i _ hi q => ⟨xs, xs[i], q, by simp [hi]⟩, fun _ q => ⟨xs, q, rfl⟩, fun i H v H' _ q y => ?_⟩
  obtain ⟨T, x, h1, h2, h3, h4⟩ := y
  exact ⟨T, .int (i : Nat), x, h1, h2, h3, rfl, h4 xs q⟩
/-- pairs (place, item) -/
def enumL : Nat → List D → List D
  | _, [] => []
  | n, d :: ds => .tup [.int n, d] :: enumL (n + 1) ds
theorem enumL_len : ∀ (n : Nat) (ds : List D), (enumL n ds).length = ds.length
  | _, [] => rfl
  | n, d :: ds => by unfold enumL; rw [List.length_cons, List.length_cons, enumL_len]
theorem enumL_get : ∀ {n i : Nat} {ds : List D} {d : D}, (enumL n ds)[i]? = some d → ∃ x, ds[i]? = some x ∧ d = .tup [.int ((n + i : Nat) : Int), x]
  | _, _, [], _, h => by unfold enumL at h; simp at h
  | n, 0, x :: ds, d, h => by
    unfold enumL at h
    simp at h
    exact ⟨x, rfl, by rw [← h]; rfl⟩
  | n, i + 1, x :: ds, d, h => by
    unfold enumL at h
    obtain ⟨y, h1, h2⟩ := enumL_get (n := n + 1) (i := i) (ds := ds) (d := d) (by simpa using h)
    refine ⟨y, by simpa using h1, ?_⟩
    rw [h2]
    have e : n + 1 + i = n + (i + 1) := by omega
    rw [e]
section
variable {c : Cf} {X : Cx} {W : L2.St → XK} {tg e a b : Expr} {pos p tpos : Pos} {elts : List Expr} {kk : Nat}
/-- a new pair is told of -/
theorem pair_new {Ψ : Wd} {H : Hp} {S : Sto} {T : Addr} {x y : V} {dx dy : D} (so : StoOk c Ψ H S) (hT : H T = none) (rx : Rep c Ψ x dx) (ry : Rep c Ψ y dy) :
    ∃ Ψ', Ext Ψ H Ψ' (L2.upd H T (.tup [x, y])) ∧ StoOk c Ψ' (L2.upd H T (.tup [x, y])) S ∧ Rep c Ψ' (.ref T) (.tup [dx, dy]) := by
  have n := so.phiNone hT
  refine ⟨Ψ.know T (.tup [x, y]), Ext.new hT n, so.new hT, .tup (.inl (.inl (show L2.upd Ψ.fz T _ T = _ from upd_same))) (by show 2 ≤ 100000; omega) ?_⟩
  exact .cons (rx.mono (Le.know n)) (.cons (ry.mono (Le.know n)) .nil)
theorem si_enum {m : Env → M D} (h : SE c X W e m) (hm : X.mg "enumerate" = none) (hg : Gl X "enumerate" := by rfl) (hs : starEach [e] X.env = [(false, eval e X.env)] := by rfl) :
    SI c X W (.Tuple elts kk tpos) (.Call (.Name "enumerate" p) [e] [] pos) (fun ρ => bd (m ρ) fun d => bd (seqM d) fun ds => rt (enumL 0 ds)) := by
  have ha : PA X [e] (rA c W fun ρ => consM (m ρ) (rt [])) := (sa_cons h (sa_nil h.k) (by rw [hs]; rfl)).p
  refine ⟨h.k, PI.imp (pi_enumT hg hm ha hs) fun σ H R ⟨Ψ, ρ, S, F, so, eo, q⟩ => ?_⟩
  refine ⟨Ψ, ρ, S, F, so, eo, ?_⟩
  unfold consM
  have q' := q.bd
  show Post c (W σ) Ψ H (bd (m ρ) (fun x => bd (rt []) fun xs => rt (x :: xs)) S) _
  unfold bd
  cases z : m ρ S with
  | stuck => rw [z] at q'; exact q'.elim
  | err k fs S1 => rw [z] at q'; exact q'
  | ok d S1 =>
    rw [z] at q'
    show ∀ Ψ' vs H', _ → _ → _ → _
    intro Ψ1 vs H1 x1 s1 r1
    cases r1 with
    | cons r1 t =>
      cases t
      have q2 : Post c (W σ) Ψ H (bd (seqM d) (fun ds => rt (enumL 0 ds)) S1) _ := q'
      have q3 := q2.bd
      unfold seqM at q3
      have go : ∀ {a : Addr} {xs : List V} {ds : List D} {J : It} {G : Hp → Prop}, xs.length ≤ LIM → Reps c Ψ1 xs ds → Walk J xs.length G (YPair (fun i => some (.int (i : Nat))) (fun i => xs[i]?)) → (∀ Ψ S H, Le Ψ1 Ψ → StoOk c Ψ H S → G H) → ItOk c (fun Ψ2 _ => Le Ψ1 Ψ2) J (enumL 0 ds) := fun {a xs ds J G} l r wk hG => by
        refine ⟨by rw [enumL_len, ← r.length]; exact l, G, _, by rw [enumL_len, ← r.length]; exact wk, hG, fun i H2 v H3 Ψ2 S2 d2 l2 s2 hd y => ?_⟩
        obtain ⟨x, hx, e⟩ := enumL_get hd
        obtain ⟨T, y1, y2, e1, e2, e3, e4, e5⟩ := y
        cases e4
        obtain ⟨y2', h1, h2⟩ := r.get hx
        have e5' : xs[i]? = some y2 := e5
        rw [e5'] at h1; cases h1
        subst e e1 e3
        have ei : ((0 + i : Nat) : Int) = (i : Nat) := by rw [Nat.zero_add]
        rw [ei]
        exact pair_new s2 e2 (.int _) (h2.mono l2)
      split at q3
      · cases r1 with
        | lst h1 l1 r1 => exact ⟨_, _, rfl, .inl ⟨SqL.of (s1.phi _ _ h1), q3 Ψ1 _ H1 x1 s1 (go (a := 0) l1 r1 walk_enum fun Ψ S H l s => SqL.of (s.phi _ _ (l.phi _ _ h1)))⟩⟩
      · cases r1 with
        | tup h1 l1 r1 => exact ⟨_, _, rfl, .inr ⟨by rw [h.k]; exact sqT_phi s1 h1, q3 Ψ1 _ H1 x1 s1 (go (a := 0) l1 r1 walk_enumT fun Ψ S H l s => by rw [h.k]; exact sqT_phi s (l.sqT h1))⟩⟩
      · cases r1 with
        | scr h1 l1 r1 => exact ⟨_, _, rfl, .inl ⟨by rw [h.k]; exact sqL_phi s1 h1, q3 Ψ1 _ H1 x1 s1 (go (a := 0) l1 r1 walk_enum fun Ψ S H l s => by rw [h.k]; exact sqL_phi s (l.sqL h1))⟩⟩
      · exact q3.elim
end
end Sm

/-! text: Sim13 -/
set_option Elab.async false
set_option linter.all false
set_option maxRecDepth 100000
set_option maxHeartbeats 1000000
namespace Sm
open PySem PySem.Spec PyProof.Rows L2
section
variable {c : Cf} {X : Cx} {W : XK} {WW : L2.St → XK} {pos pos' apos cpos : Pos} {i j : Nat} {x y : Str} {a b e o : Expr}

/-! ### own dicts: made, read, changed -/
def pairsL : List D → Option (List (Key × D))
  | [] => some []
  | .tup [k, v] :: r => match keyD k, pairsL r with
    | some k, some r => some ((k, v) :: r)
    | _, _ => none
  | _ => none
theorem pairsL_reps {Ψ : Wd} {H : Hp} {S : Sto} (so : StoOk c Ψ H S) : ∀ {vs : List V} {ds : List D} {ks : List (Key × D)}, Reps c Ψ vs ds → pairsL ds = some ks →
    ∃ ps kvs, vs = ps.map V.ref ∧ Paired (fun p (kv : Key × V) => SqT c.K H p [kV kv.1, kv.2]) ps kvs ∧ KReps c Ψ kvs ks
  | _, _, _, .nil, h => by
    unfold pairsL at h
    cases h
    exact ⟨[], [], rfl, .nil, .nil⟩
  | _, _, _, .cons h t, e => by
    unfold pairsL at e
    split at e
    · rename_i heq
      cases heq
    · rename_i heq
      injection heq with h1 h2
      subst h1 h2
      split at e
      · rename_i k0 r0 hk hr
        cases e
        obtain ⟨ps, kvs, e1, e2, e3⟩ := pairsL_reps so t hr
        cases h with
        | tup h0 l0 r0 =>
          cases r0 with
          | cons rk t1 =>
            cases t1 with
            | cons rv t2 =>
              cases t2
              have ek := keyD_rep rk hk
              subst ek
              exact ⟨_ :: ps, (_, _) :: kvs, by rw [e1]; rfl, .cons (sqT_phi so h0) e2, .cons rv e3⟩
      · cases e
    · cases e
def dctAt (ρ : Env) (i : Nat) : M (List (Key × D)) := fun S => match ρ[i]? with
  | some (.ownD ks) => .ok ks S
  | _ => .stuck
theorem dct_at {Ψ : Wd} {σ : L2.St} {ρ : Env} {H : Hp} {F : Nat → List Addr} {S : Sto} {α : Type} {R : α → Sto → Prop} {f : List (Key × D) → M α} {V0 : XK} {Ψ0 : Wd} {H0 : Hp} (eo : EnvOk c Ψ σ ρ H F) (q : Post c V0 Ψ0 H0 (bd (dctAt ρ i) f S) R) :
    ∃ ks a kvs, ρ[i]? = some (.ownD ks) ∧ F i = [a] ∧ σ[i]? = some (some (.ref a)) ∧ H a = some (.dK kvs) ∧ KReps c Ψ kvs ks ∧ Post c V0 Ψ0 H0 (f ks S) R := by
  have q' := q.bd
  unfold dctAt at q'
  split at q'
  · rename_i ks hs
    obtain ⟨a, kvs, hF, h1, h2, l, h3⟩ := eo.slot i _ hs
    exact ⟨ks, a, kvs, hs, hF, h1, h2, KReps.of l h3, q'⟩
  · exact q'.elim
/-- x = dict([(k, v), ..]) -/
theorem ss_setDct {m : Env → M D} {p : Pos} (h : SE c X (cW W) e m) (hN : X.N.Nodup) (hm : X.mg "dict" = none) (hg : Gl X "dict" := by rfl) (hi : X.N[i]? = some x := by rfl) (hx : Loc X.env.scope x := by first | exact Or.inl rfl | exact Or.inr rfl)
    (he : starEach [e] X.env = (false, eval e X.env) :: starEach [] X.env := by rfl) (hpl : (backTo cpos (starEach [] X.env)).any (·.1) = false := by rfl)
    (hs : swapsWith (.Call (.Name "dict" p) [e] [] cpos) (some (.Name x pos')) pos.line X.env = pure false := by rfl) (hf : X.fn x = true ∨ X.env.scope.names.lookup x = some .local := by first | exact .inl rfl | exact .inr rfl) (hc : X.calm = true := by rfl) (hv : bootBuiltins "dict" = some (.type "dict") := by rfl) :
    SS c X W (.Assign [.Name x pos'] (.Call (.Name "dict" p) [e] [] cpos) pos) (fun ρ => bd (m ρ) fun d => fun S => match d with
      | .lst ds => match pairsL ds with
        | some ks => .ok (.nx (ρ.set i (.ownD (mergeL [] ks)))) S
        | none => .stuck
      | _ => .stuck) := by
  refine ⟨h.k, PS.imp (ps_set hN hi hx (pe_callTy (call_dictP hc) hg hm hv (pa_cons h.p pa_nil he) (by decide) (by decide) he hpl) hs hf) fun D σ H ⟨B, Ψ, ρ, S, F, g, q⟩ => ⟨Ψ, ρ, S, F, g.so, g.eo, (q.bd.ext g.x).mono fun d S1 q1 Ψ1 v H1 x1 s1 r1 => ?_⟩⟩
  split at q1
  · split at q1
    · rename_i ks hk
      cases r1 with
      | lst h1 l1 r1 =>
        obtain ⟨ps, kvs, rfl, e2, e3⟩ := pairsL_reps s1 r1 hk
        refine ⟨_, ps, kvs, rfl, SqL.of (s1.phi _ _ h1), h.k ▸ e2, fun p hp => ?_⟩
        have n := s1.phiNone hp
        have km := (e3.merge (acc := []) (acc' := []) .nil).to
        have g2 := g.ext (x1.trans (Ext.lay (o := .dK (mergeK [] kvs)) hp)) (s1.lay hp)
        have g3 : ∃ F', Gd c B Ψ1 (σ.set i (some (.ref p))) (ρ.set i (.ownD (mergeL [] ks))) (L2.upd H1 p (.dK (mergeK [] kvs))) F' S1 := by
          refine g2.setO i (o := some (.ref p)) (s := .ownD (mergeL [] ks)) (As := [p]) ⟨p, _, rfl, rfl, upd_same, km.1, km.2⟩ (fun b hb => ?_) (fun b hb j _ hj => ?_) (fun _ _ z => nomatch z)
          · rcases List.mem_singleton.mp hb with rfl
            have h0 : L2.upd H1 b (.dK (mergeK [] kvs)) b ≠ none := by rw [upd_same]; exact fun z => nomatch z
            exact ⟨n, s1.footNone hp, h0, g.x.dom _ (x1.dom _ hp)⟩
          · rcases List.mem_singleton.mp hb with rfl
            exact (g.eo.priv j _ hj).2.2 (x1.dom _ hp)
        obtain ⟨F', g3⟩ := g3
        exact q1 _ _ _ F' g3
    · exact q1.elim
  · exact q1.elim
/-- x[k] of an own dict -/
theorem se_dix {m : Env → M D} {px : Pos} (h : SE c X WW e m) (hu : X.A.units + 1 < cLine) (hN : X.N[i]? = some x := by rfl) (hv : Vis X.env.scope x := by first | exact Or.inl rfl | exact Or.inr (Or.inl rfl) | exact Or.inr (Or.inr rfl)) (hd : (x == ("__debug__" : Str)) = false := by decide)
    (hcd : (x == ("__classdict__" : Str)) = false := by decide) (hs : NoSl e := by exact fun _ _ => rfl) :
    SE c X WW (.Subscript (.Name x px) e pos) (fun ρ => bd (dctAt ρ i) fun ks => bd (m ρ) fun k => opt ((keyD k).bind (getL ks))) := by
  refine ⟨h.k, PE.imp (pe_dget hu (pe_var hN hv hd hcd) h.p hs) fun σ H Q ⟨Ψ, ρ, S, F, so, eo, q⟩ => ?_⟩
  obtain ⟨ks, a, kvs, hr, hF, h1, h2, kr, q⟩ := dct_at eo q
  refine ⟨.ref a, h1, Ψ, ρ, S, F, so, eo, q.bd.mono fun k S1 q1 Ψ1 kv H1 x1 s1 r1 => ?_⟩
  unfold opt at q1
  split at q1
  · rename_i d hd'
    cases hk : keyD k with
    | none => rw [hk] at hd'; cases hd'
    | some kk =>
      rw [hk] at hd'
      have hg : getL ks kk = some d := hd'
      obtain ⟨v, hv', rv⟩ := kr.get hg
      have ek := keyD_rep r1 hk
      subst ek
      have h2' : H1 a = some (.dK kvs) := x1.keep _ _ h2 (eo.priv i a (by rw [hF]; simp)).2.1
      exact ⟨a, v, rfl, by rw [← hv']; exact DGet.k h2', q1 Ψ1 v H1 x1 s1 (rv.mono x1.le)⟩
  · exact q1.elim
/-- x[k] = v, an own dict -/
theorem ss_dset {m mk : Env → M D} {px : Pos} {kx : Expr} (h : SE c X (cW W) e m) (hk : SE c X (cW W) kx mk) (hu : X.A.units + 1 < cLine) (hN : X.N[i]? = some x := by rfl) (hv : Vis X.env.scope x := by first | exact Or.inl rfl | exact Or.inr (Or.inl rfl) | exact Or.inr (Or.inr rfl)) (hd : (x == ("__debug__" : Str)) = false := by decide)
    (hcd : (x == ("__classdict__" : Str)) = false := by decide) (hs : swapsWith e (some (.Subscript (.Name x px) kx pos')) pos.line X.env = pure false := by rfl) :
    SS c X W (.Assign [.Subscript (.Name x px) kx pos'] e pos) (fun ρ => bd (m ρ) fun v => bd (dctAt ρ i) fun ks => bd (mk ρ) fun k => fun S => match keyD k with
      | some kk => if ks.length < LIM then .ok (.nx (ρ.set i (.ownD (putL ks kk v)))) S else .stuck
      | none => .stuck) := by
  refine ⟨h.k, PS.imp (ps_dput hu (pe_var hN hv hd hcd) hk.p h.p hs) fun D σ H ⟨B, Ψ, ρ, S, F, g, q⟩ => ⟨Ψ, ρ, S, F, g.so, g.eo, (q.bd.ext g.x).mono fun v S1 q1 Ψ1 vv H1 x1 s1 r1 => ?_⟩⟩
  have g1 := g.ext x1 s1
  obtain ⟨ks, a, kvs, hr, hF, h1, h2, kr, q1⟩ := dct_at g1.eo q1
  refine ⟨.ref a, h1, Ψ1, ρ, S1, F, g1.so, g1.eo, (q1.bd.ext g1.x).mono fun k S2 q2 Ψ2 kv H2 x2 s2 r2 => ?_⟩
  have g2 := g1.ext x2 s2
  split at q2
  · rename_i kk hkk
    split at q2
    · rename_i hl
      have ek := keyD_rep r2 hkk
      subst ek
      have ha : a ∈ F i := by rw [hF]; simp
      have h2' : H2 a = some (.dK kvs) := x2.keep _ _ h2 (g1.eo.priv i a ha).2.1
      have hlen : kvs.length = ks.length := by
        have := congrArg List.length kr.to.1
        rwa [List.length_map, List.length_map] at this
      have kp : KReps c Ψ2 (putK kvs kk vv) (putL ks kk v) := by
        have kr2 : KReps c Ψ2 kvs ks := KReps.of kr.to.1 (kr.to.2.mono x2.le)
        exact kr2.put kk (r1.mono x2.le)
      refine ⟨a, _, rfl, DPut.k h2' (lim_lt (by rw [hlen]; exact hl)), ?_⟩
      exact q2 Ψ2 σ _ F (g2.upd hr ha ⟨a, _, hF, h1, upd_same, kp.to.1, kp.to.2⟩ (fun _ _ z => nomatch z))
    · exact q2.elim
  · exact q2.elim

/-! ### the first place of an equal one -/
def idxE : List PyData → PyData → Option Nat
  | [], _ => none
  | y :: ys, d => if PyData.eqv y d = true then some 0 else (idxE ys d).map (· + 1)
theorem idxE_some : ∀ {ys : List PyData} {d : PyData} {j : Nat}, idxE ys d = some j → ∃ z, ys[j]? = some z ∧ PyData.eqv z d = true ∧ ∀ (m : Nat) (z' : PyData), m < j → ys[m]? = some z' → PyData.eqv z' d = false
  | [], _, _, h => by cases h
  | y :: ys, d, j, h => by
    unfold idxE at h
    split at h
    · cases h
      exact ⟨y, rfl, by assumption, fun m z' hm => by omega⟩
    · rename_i hn
      cases e : idxE ys d with
      | none => rw [e] at h; cases h
      | some k =>
        rw [e] at h
        cases h
        obtain ⟨z, h1, h2, h3⟩ := idxE_some e
        refine ⟨z, by simpa using h1, h2, fun m z' hm hz => ?_⟩
        cases m with
        | zero =>
          simp at hz
          subst hz
          simpa using hn
        | succ m =>
        have hm' : m + 1 < k + 1 := hm
        exact h3 m z' (by omega) (by simpa using hz)
def idxD : D → D → Option D := fun a b => match a.py, b.py with
  | some (.list ys), some d => if min (PyData.depthAll ys) d.depth ≤ 60 then (idxE ys d).map fun j => D.int (j : Nat) else none
  | some (.tuple ys), some d => if min (PyData.depthAll ys) d.depth ≤ 60 then (idxE ys d).map fun j => D.int (j : Nat) else none
  | _, _ => none
def rIndexP (K : PySem.W.Frag) : V → List V → Hp → VK → Prop := fun x xs H Q => ∃ (a : Addr) (y : V) (d : PyData) (ds : List PyData) (j : Nat), x = V.ref a ∧ xs = [y] ∧ Dp K H (V.ref a) (.list ds) ∧ Dp K H y d ∧
  PyData.plainAll ds = true ∧ d.plain = true ∧ min (PyData.depthAll ds) d.depth ≤ 60 ∧ idxE ds d = some j ∧ Q (.int (j : Nat)) H
theorem mt_indexP (hu : X.A.units + 64 < cLine) : MtR X "list.index" (rIndexP X.K) := by
  intro pins s σ H x xs v us Q I rx rxs h
  obtain ⟨a, y, d, ds, j, rfl, rfl, hl, hy, sl, sd, hm, hj0, q⟩ := h
  obtain ⟨z, hz, hzj, hno⟩ := idxE_some hj0
  cases rx
  cases rxs with
  | cons ry rt =>
    rename_i uy ut
    cases rt
    obtain ⟨bs, r1⟩ := Dp.reads I d y uy hy ry
    cases hl with
    | lst hs ha =>
      obtain ⟨its, rv, ⟨⟨cls, dd, data, sls⟩, n, ho, hc, hdn, hdt⟩, hlen⟩ := I.list hs
      simp only at hc hdt
      subst hc hdt
      obtain ⟨as, h4⟩ := Dp.readsAll I ds _ its ha rv
      have hmap : its.map (SeqAt.readOf s.heap) = ds := SeqAt.readsAll_map_plain ds its as sl h4
      have hn : its.length = ds.length := by rw [← hmap, List.length_map]
      have hsl := sizeLine_eq
      have hvl := rv.length
      obtain ⟨hjd, _⟩ := List.getElem?_eq_some_iff.mp hz
      have hjl : j < its.length := by omega
      have hj : j < its.toArray.size := by simpa using hjl
      have at_ : ∀ (m : Nat) (hm : m < its.toArray.size) (z' : PyData), ds[m]? = some z' → SeqAt.readOf s.heap its.toArray[m] = z' := by
        intro m hm z' hz'
        have hml : m < its.length := by simpa using hm
        rw [← hmap, List.getElem?_map, List.getElem?_eq_getElem hml] at hz'
        have e1 : SeqAt.readOf s.heap its[m] = z' := Option.some.inj (show some (SeqAt.readOf s.heap its[m]) = some z' from hz')
        simpa using e1
      refine call_meets PySem.F.slot_list_index ⟨_, ho, rfl⟩ PySem.F.entry_list_index (PySem.F.args_list_index_2 _ _)
        (SeqAt.list_indexAt a its.toArray n dd sls uy (fun u => PyData.eqv (SeqAt.readOf s.heap u) d) j hj (by omega) ?_ ?_) ⟨ho, SeqAt.items_plain (vs := its.toArray) (show ReadsAll s.heap its.toArray.toList ds as from h4) r1 sl sd (by omega), ?_⟩
      · show PyData.eqv (SeqAt.readOf s.heap its.toArray[j]) d = true
        rw [at_ j hj z hz]
        exact hzj
      · intro m hm hmj
        have hml : m < its.length := by simpa using hm
        have hmd : m < ds.length := by omega
        have hz' : ds[m]? = some ds[m] := List.getElem?_eq_getElem hmd
        show PyData.eqv (SeqAt.readOf s.heap its.toArray[m]) d = false
        rw [at_ m hm _ hz']
        exact hno m _ hmj hz'
      · exact ⟨.int (j : Nat), H, I.tok _, ⟨_, rfl⟩, q⟩
end
end Sm

/-! text: Sim14 -/
set_option Elab.async false
set_option linter.all false
set_option maxRecDepth 100000
set_option maxHeartbeats 1000000
namespace Sm
open PySem PySem.Spec PyProof.Rows L2
theorem cr_range1 {X : Cx} : CallR X (.type "range") (fun vs H Q => ∃ j, vs = [V.int j] ∧ ∀ p, H p = none → Q (.ref p) (upd H p (.rng 0 j))) := by
  intro pins s σ H vs us Q I r h
  obtain ⟨j, rfl, q⟩ := h
  obtain ⟨u1, rfl, rj⟩ := r.one
  obtain ⟨u, rfl⟩ := rj
  refine call_range_1 ⟨.ref s.heap.objs.size, upd H s.heap.objs.size (.rng 0 j), I.laid (t' := s.toks + 2) (fun b o e => Heap.get?_push_of_some _ e) (Nat.le_refl _) ?_, rfl, q _ (I.hok.fresh (Nat.le_refl _))⟩
  exact ⟨_, _, _, Heap.get?_push_size _ rfl⟩
section
variable {c : Cf} {X : Cx} {W : XK} {WW : L2.St → XK} {pos pos' apos cpos p p2 : Pos} {i j : Nat} {x y : Str} {a b e o : Expr}
def asL (d : D) : M (List D) := fun S => match d with
  | .lst ds => .ok ds S
  | _ => .stuck
/-- l.index(e) -/
theorem se_index {mo me : Env → M D} (ho : SB c X WW o mo) (h : SE c X WW e me) (hu : X.A.units + 64 < cLine) (hbase : attributeBase o "index" X.env (eval o X.env) = eval o X.env := by rfl)
    (hfew : ((backTo cpos (starEach [e] X.env)).all (fun x => !x.1) && (backToKw cpos (keywordEach [] X.env)).all (fun x => x.1.isSome)
      && decide ([e].length + ([] : List Keyword).length + (if ([] : List Keyword).isEmpty then 0 else 1) < 30)) = true := by rfl)
    (hline : (apos.endLine == cpos.line) = true := by rfl) (hs : starEach [e] X.env = (false, eval e X.env) :: starEach [] X.env := by rfl) (hplain : (backTo cpos (starEach [] X.env)).any (·.1) = false := by rfl) :
    SE c X WW (.Call (.Attribute o "index" apos) [e] [] cpos) (fun ρ => bd (mo ρ) fun d => bd (asL d) fun ds => bd (me ρ) fun y => opt (idxD (.lst ds) y)) := by
  refine ⟨h.k, PE.imp (pe_bm PySem.F.plainAttrs_list PySem.F.slot_list_index PySem.F.type_list_index (mt_indexP hu) ho.p (pa_cons h.p pa_nil hs) hbase hfew hline hs hplain) fun σ H Q ⟨Ψ, ρ, S, F, so, eo, q⟩ => ⟨Ψ, ρ, S, F, so, eo, q.bd.mono fun d S1 q1 Ψ1 v H1 x1 s1 r1 => ?_⟩⟩
  have q2 := q1.bd
  unfold asL at q2
  split at q2
  · rename_i ds
    obtain ⟨a0, vs, rfl, h0, l0, r0⟩ := (r1.h (eo.ext x1)).lst s1
    have q2' : Post c (WW σ) Ψ H (bd (me ρ) (fun y => opt (idxD (.lst ds) y)) S1) _ := q2
    refine ⟨.inl ⟨rfl, vs, SqL.of h0⟩, Ψ1, ρ, S1, F, s1, eo.ext x1, (Post.ext x1 q2').bd.mono fun y S2 q3 Ψ2 yv H2 x2 s2 r2 => ?_⟩
    unfold opt at q3
    split at q3
    · rename_i dd hd
      unfold idxD at hd
      split at hd
      · rename_i ys py h1 h2
        split at hd
        · rename_i hm
          cases hj : idxE ys py with
          | none => rw [hj] at hd; cases hd
          | some jj =>
            rw [hj] at hd
            cases hd
            have e1 := ((r1.mono x2.le).h (eo.ext (x1.trans x2))).dp s2 h1
            have e2 : Dp c.K H2 yv py := RepH.dp s2 (.inl r2) h2
            have pl1 := D.plain h1
            refine ⟨a0, yv, py, ys, jj, rfl, rfl, h.k ▸ e1, h.k ▸ e2, pl1, D.plain h2, hm, hj, ?_⟩
            exact q3 Ψ2 _ H2 (x1.trans x2) s2 (.int _)
        · cases hd
      · rename_i ys py h1 h2
        unfold D.py at h1
        split at h1 <;> cases h1
      · cases hd
    · exact q3.elim
  · exact q2.elim
/-- the index of a text in a written tuple of texts -/
def idxS (ys : List Str) (z : Str) : Option Nat := match ys with
  | [] => none
  | y :: ys => if y = z then some 0 else (idxS ys z).map (· + 1)
theorem idxS_some : ∀ {ys : List Str} {z : Str} {j : Nat}, idxS ys z = some j → ys[j]? = some z ∧ ∀ m, m < j → ys[m]? ≠ some z
  | [], _, _, h => by cases h
  | y :: ys, z, j, h => by
    unfold idxS at h
    split at h
    · cases h
      exact ⟨by rename_i e; rw [e]; rfl, fun m hm => by omega⟩
    · rename_i hn
      cases e : idxS ys z with
      | none => rw [e] at h; cases h
      | some k =>
        rw [e] at h
        cases h
        obtain ⟨h1, h2⟩ := idxS_some e
        refine ⟨by simpa using h1, fun m hm => ?_⟩
        cases m with
        | zero => simp; exact hn
        | succ m =>
          have hm' : m + 1 < k + 1 := hm
          simpa using h2 m (by omega)
/-- a tuple of texts that the top has made -/
structure KTs (K : PySem.W.Frag) (a : Addr) (ys : List Str) : Prop where
  ex : ∃ (o : Obj) (its : Array Value) (n : Nat), K.lookup a = some o ∧ o.cls = .type "tuple" ∧ o.dict = none ∧ o.data = .seq its n ∧ its.size ≤ sizeLine ∧ Vals (ys.map V.str) its.toList
theorem KTs.sqT {K : PySem.W.Frag} {a : Addr} {ys : List Str} (k : KTs K a ys) (H : Hp) : SqT K H a (ys.map V.str) := by
  obtain ⟨o, its, n, h1, h2, _, h3, h4, h5⟩ := k.ex
  exact .inr ⟨o, its, n, h1, h2, h3, h4, h5⟩
theorem KTs.rep {a : Addr} {ys : List Str} (k : KTs c.K a ys) (hl : ys.length ≤ LIM) (Ψ : Wd) : Rep c Ψ (.ref a) (.tup (ys.map D.str)) := by
  refine .tup (k.sqT _) (by rw [List.length_map]; exact hl) ?_
  clear hl k
  induction ys with
  | nil => exact .nil
  | cons y ys ih => exact .cons (.str y) ih
theorem se_kidx {me : Env → M D} {ad : Addr} {ys : List Str} (k : KTs c.K ad ys) (hg : Gl X x) (hm : X.mg x = some (.ref ad)) (h : SE c X WW e me) (hd : (x == ("__debug__" : Str)) = false := by decide) (hbase : attributeBase (.Name x p) "index" X.env (eval (.Name x p) X.env) = eval (.Name x p) X.env := by rfl)
    (hfew : ((backTo cpos (starEach [e] X.env)).all (fun x => !x.1) && (backToKw cpos (keywordEach [] X.env)).all (fun x => x.1.isSome)
      && decide ([e].length + ([] : List Keyword).length + (if ([] : List Keyword).isEmpty then 0 else 1) < 30)) = true := by rfl)
    (hline : (apos.endLine == cpos.line) = true := by rfl) (hs : starEach [e] X.env = (false, eval e X.env) :: starEach [] X.env := by rfl) (hplain : (backTo cpos (starEach [] X.env)).any (·.1) = false := by rfl) :
    SE c X WW (.Call (.Attribute (.Name x p) "index" apos) [e] [] cpos) (fun ρ => bd (me ρ) fun y => fun S => match y with
      | .str z => match idxS ys z with
        | some j => .ok (.int (j : Nat)) S
        | none => .stuck
      | _ => .stuck) := by
  refine ⟨h.k, PE.imp (pe_bm PySem.F.plainAttrs_tuple PySem.F.slot_tuple_index PySem.F.type_tuple_index mt_tup_index (pe_glob (v := .ref ad) hg hm rfl hd) (pa_cons h.p pa_nil hs) hbase hfew hline hs hplain) fun σ H Q ⟨Ψ, ρ, S, F, so, eo, q⟩ => ?_⟩
  obtain ⟨o, its, n, h1, h2, h3, h4, h5, h6⟩ := k.ex
  refine ⟨.inr (.inl ⟨rfl, o, by rw [h.k]; exact h1, h2, h3⟩), Ψ, ρ, S, F, so, eo, q.bd.mono fun y S1 q1 Ψ1 yv H1 x1 s1 r1 => ?_⟩
  split at q1
  · rename_i z
    split at q1
    · rename_i jj hj
      cases r1
      obtain ⟨g1, g2⟩ := idxS_some hj
      exact ⟨ad, ys, z, jj, rfl, rfl, by rw [h.k]; exact k.sqT _, g1, g2, q1 Ψ1 _ H1 x1 s1 (.int _)⟩
    · exact q1.elim
  · exact q1.elim
/-- i in range(n) -/
theorem st_inRng {me ma : Env → M D} (h : SE c X WW e me) (ha : SE c X WW a ma) (hm : X.mg "range" = none) (hg : Gl X "range" := by rfl) (hk : behindInMarks .In (.Call (.Name "range" p) [a] [] p2) = false := by first | rfl | with_unfolding_all rfl)
    (hs : starEach [a] X.env = (false, eval a X.env) :: starEach [] X.env := by rfl) (hpl : (backTo p2 (starEach [] X.env)).any (·.1) = false := by rfl) :
    ST c X WW (.Compare e [.In] [.Call (.Name "range" p) [a] [] p2] pos) (fun ρ => bd (me ρ) fun x => bd (ma ρ) fun y => fun S => match x, y with
      | .int i, .int j => .ok (decide (0 ≤ i ∧ i < j)) S
      | _, _ => .stuck) := by
  refine ⟨h.k, PT.imp (pt_cmpR op_in_rng h.p (pe_callTy cr_range1 hg hm boot_range (pa_cons ha.p pa_nil hs) (by decide) (by decide) hs hpl) hk) fun σ H Q ⟨Ψ, ρ, S, F, so, eo, q⟩ => ⟨Ψ, ρ, S, F, so, eo, q.bd.mono fun d S1 q1 Ψ1 v H1 x1 s1 r1 => ?_⟩⟩
  refine ⟨Ψ1, ρ, S1, F, s1, eo.ext x1, (q1.ext x1).bd.mono fun y S2 q2 Ψ2 w H2 x2 s2 r2 => ?_⟩
  split at q2
  · cases r1
    cases r2
    refine ⟨_, rfl, fun t ht => ⟨_, t, 0, _, rfl, rfl, upd_same, _, rfl, ?_⟩⟩
    exact q2 Ψ2 _ ((x1.trans x2).trans (Ext.lay ht)) (s2.lay ht)
  · exact q2.elim
/-- list(range(n)) -/
theorem sn_listRg {ma : Env → M D} (ha : SE c X WW a ma) (hml : X.mg "list" = none) (hmr : X.mg "range" = none) (hgl : Gl X "list" := by rfl) (hgr : Gl X "range" := by rfl) (hc : X.calm = true := by rfl)
    (na : starEach [.Call (.Name "range" p) [a] [] p2] X.env = (false, eval (.Call (.Name "range" p) [a] [] p2) X.env) :: starEach [] X.env := by rfl) (nb : starEach [a] X.env = (false, eval a X.env) :: starEach [] X.env := by rfl) :
    SN c X WW (.Call (.Name "list" pos) [.Call (.Name "range" p) [a] [] p2] [] cpos) (fun ρ => bd (ma ρ) fun y => fun S => match y with
      | .int j => if 0 ≤ j ∧ j ≤ 100000 then .ok (rng 0 j.toNat) S else .stuck
      | _ => .stuck) := by
  refine ⟨ha.k, PE.imp (pe_listRg hc hgl hml (prg_1 hgr hmr ha.p nb) na) fun σ H Q ⟨Ψ, ρ, S, F, so, eo, q⟩ => ⟨Ψ, ρ, S, F, so, eo, q.bd.mono fun y S1 q1 Ψ1 v H1 x1 s1 r1 => ?_⟩⟩
  split at q1
  · split at q1
    · rename_i jj hj
      cases r1
      refine ⟨jj, rfl, RgOk.of_le (by omega) (by omega) (by omega) hj.1, fun t ht => ?_⟩
      have hlen : (rgV 0 jj).length ≤ LIM := by
        rw [rgV_length]
        show _ ≤ 100000
        omega
      refine q1 Ψ1 t _ _ (x1.trans (Ext.lay ht)) (s1.lay ht) upd_same hlen ?_ (s1.phiNone ht) (s1.footNone ht) (x1.dom _ ht)
      unfold rgV rng
      have e1 : (jj - 0).toNat = jj.toNat := by rw [Int.sub_zero]
      rw [e1]
      have key : ∀ l : List Nat, Reps c Ψ1 (l.map fun (i : Nat) => V.int (0 + (i : Nat))) (l.map fun (i : Nat) => D.int (0 + (i : Nat))) := fun l => by
        induction l with
        | nil => exact .nil
        | cons i l ih => exact .cons (.int _) ih
      exact key _
    · exact q1.elim
  · exact q1.elim

/-! ### a dict of the module with text keys -/
/-- at ad: the module's dict, its values told by vs -/
structure KDt (c : Cf) (w : World) (ad : Addr) (vs : List (Str × D)) : Prop where
  at_ : ∃ es n, KDict c.K w ad es n
  get : ∀ q ∈ vs, ∃ u v, PySem.W.nsIn c.K ad q.1 = some (some u) ∧ RelV v u ∧ ∀ Ψ, Rep c Ψ v q.2
def lkS (vs : List (Str × D)) (z : Str) : Option D := (vs.find? fun q => decide (q.1 = z)).map (·.2)
theorem lkS_mem : ∀ {vs : List (Str × D)} {z : Str} {d : D}, lkS vs z = some d → (z, d) ∈ vs
  | [], _, _, h => by cases h
  | (k, d0) :: vs, z, d, h => by
    by_cases e : k = z
    · unfold lkS at h
      rw [List.find?_cons, decide_eq_true e] at h
      cases h
      subst e
      exact List.mem_cons_self
    · have h' : lkS vs z = some d := by
        unfold lkS at h ⊢
        rw [List.find?_cons, decide_eq_false e] at h
        exact h
      exact List.mem_cons_of_mem _ (lkS_mem h')
/-- x in D where it stands there (no answer else) -/
theorem se_inKD {me : Env → M D} {ad : Addr} {vs : List (Str × D)} (k : KDt c X.w ad vs) (hg : Gl X x) (hm : X.mg x = some (.ref ad)) (h : SE c X WW e me) (hd : (x == ("__debug__" : Str)) = false := by decide) (hk : behindInMarks .In (.Name x p) = false := by first | rfl | with_unfolding_all rfl) :
    SE c X WW (.Compare e [.In] [.Name x p] pos) (fun ρ => bd (me ρ) fun y => fun S => match y with
      | .str z => match lkS vs z with
        | some _ => .ok (.bl true) S
        | none => .stuck
      | _ => .stuck) := by
  obtain ⟨es, n, kd⟩ := k.at_
  refine ⟨h.k, PE.imp (pe_cmpR (op_in_kd (h.k ▸ kd)) h.p (pe_glob (v := .ref ad) hg hm rfl hd) hk) fun σ H Q ⟨Ψ, ρ, S, F, so, eo, q⟩ => ⟨Ψ, ρ, S, F, so, eo, q.bd.mono fun y S1 q1 Ψ1 v H1 x1 s1 r1 => ?_⟩⟩
  split at q1
  · split at q1
    · rename_i z _ d hz
      cases r1
      obtain ⟨u, v, e1, _, _⟩ := k.get _ (lkS_mem hz)
      exact ⟨z, some u, rfl, rfl, by rw [h.k]; exact e1, q1 Ψ1 _ H1 x1 s1 (.bl _)⟩
    · exact q1.elim
  · exact q1.elim
end
end Sm

/-! text: Sim15 -/
set_option Elab.async false
set_option linter.all false
set_option maxRecDepth 100000
set_option maxHeartbeats 1000000
namespace Sm
open PySem PySem.Spec PyProof.Rows L2
section
variable {c : Cf} {X : Cx} {W : XK} {WW : L2.St → XK} {pos pos' apos cpos p p2 : Pos} {i j k : Nat} {x y f : Str} {a b e o : Expr} {es : List Expr}
/-- D[x], a dict of the module with text keys -/
theorem se_kd {me : Env → M D} {ad : Addr} {vs : List (Str × D)} (k : KDt c X.w ad vs) (hg : Gl X x) (hm : X.mg x = some (.ref ad)) (h : SE c X WW e me) (hd : (x == ("__debug__" : Str)) = false := by decide) (hs : NoSl e := by exact fun _ _ => rfl) :
    SE c X WW (.Subscript (.Name x p) e pos) (fun ρ => bd (me ρ) fun y => fun S => match y with
      | .str z => match lkS vs z with
        | some d => .ok d S
        | none => .stuck
      | _ => .stuck) := by
  obtain ⟨es, n, kd⟩ := k.at_
  have kd' : KDict X.K X.w ad es n := h.k ▸ kd
  refine ⟨h.k, ⟨fun pins s σ H Q I q => ?_⟩⟩
  obtain ⟨Ψ, ρ, S, F, so, eo, q⟩ := q
  refine subD_of PySem.F.slot_dict_getitem.lookup hs (thn ((pe_glob (v := .ref ad) (pos := p) hg hm rfl hd).run pins s σ H (fun v H' => v = .ref ad ∧ H' = H) I ⟨rfl, rfl⟩) fun u s1 ⟨v1, H1, I1, rx, ev, eh⟩ => ?_)
  subst ev eh
  refine thn (h.p.run pins s1 σ H1 (fun yv H2 => ∃ z u0 v0, yv = .str z ∧ PySem.W.nsIn X.K ad z = some (some u0) ∧ RelV v0 u0 ∧ Q v0 H2) I1 ⟨Ψ, ρ, S, F, so, eo, q.bd.mono fun y S1 q1 Ψ1 v H1 x1 s1 r1 => ?_⟩) fun iv s2 ⟨yv, H2, I2, ry, z, u0, v0, ez, e1, e2, q2⟩ => ?_
  · split at q1
    · split at q1
      · rename_i z _ d hz
        cases r1
        obtain ⟨u, v, e1, e2, e3⟩ := k.get _ (lkS_mem hz)
        exact ⟨z, u, v, rfl, by rw [h.k]; exact e1, e2, q1 Ψ1 v H1 x1 s1 (e3 Ψ1)⟩
      · exact q1.elim
    · exact q1.elim
  · obtain rfl : u = Value.ref ad := rx
    exact ⟨kd_type kd' I2, op_item_kd kd' pins s2 σ H2 (.ref ad) yv (.ref ad) iv Q I2 rfl ry ⟨z, u0, v0, rfl, ez, e1, e2, q2⟩⟩

/-! ### instances -/
def slotM (k i : Nat) (d : D) : M D := fun S => match d with
  | .ins k' fs => match Nat.decEq k' k with
    | .isTrue _ => match fs[i]? with
      | some v => .ok v S
      | none => .stuck
    | .isFalse _ => .stuck
  | _ => .stuck
def insM (k : Nat) (d : D) : M D := fun S => match d with
  | .ins k' fs => match Nat.decEq k' k with
    | .isTrue _ => .ok (.ins k' fs) S
    | .isFalse _ => .stuck
  | _ => .stuck
/-- e.f, a slot -/
theorem se_attr {me : Env → M D} {ad : Addr} (h : SE c X WW e me) (C : SlX.SCls c.K (c.cls k)) (t : SlX.Slot1 c.K (c.cls k) f ad i) (hb : attributeBase e f X.env (eval e X.env) = eval e X.env := by rfl) :
    SE c X WW (.Attribute e f pos) (fun ρ => bd (me ρ) (slotM k i)) := by
  refine ⟨h.k, PE.imp (SlX.pe_sl h.p hb) fun σ H Q ⟨Ψ, ρ, S, F, so, eo, q⟩ => ⟨Ψ, ρ, S, F, so, eo, q.bd.mono fun d S1 q1 Ψ1 v H1 x1 s1 r1 => ?_⟩⟩
  unfold slotM at q1
  split at q1
  · split at q1
    · split at q1
      · rename_i _ ek _ _ d hd
        subst ek
        cases r1 with
        | ins h0 r0 =>
          obtain ⟨v', hv, rv⟩ := r0.get hd
          exact ⟨_, _, _, ad, _, i, v', rfl, slt_phi s1 h0, h.k ▸ C, h.k ▸ t, by rw [List.getElem?_map, hv]; rfl, q1 Ψ1 v' H1 x1 s1 rv⟩
      · exact q1.elim
    · exact q1.elim
  · exact q1.elim
/-- the facts of a property -/
structure Prp (K : PySem.W.Frag) (C : Addr) (f : Str) (p g : Addr) : Prop where
  at_ : PySem.W.findIn K (.ref C) f = some (some (.ref p))
  get : PySem.W.specialIn K (.ref p) "__get__" = some (some (.builtin "property.__get__"))
  tk : PySem.W.takesIn K (.ref p) = some true
  rc : ∃ rest, PySem.W.recIn K p "property" = some (.ref g :: rest)
theorem se_prop {me : Env → M D} {ad g : Addr} {n : Nat} {m : List D → M D} (h : SE c X WW e me) (C : SlX.SCls c.K (c.cls k)) (t : Prp c.K (c.cls k) f ad g) (G : Fn c X.prog X.w X.mg X.base n g 1 m) (hr : Room (n + 1) X.A) (hb : attributeBase e f X.env (eval e X.env) = eval e X.env := by rfl) :
    SE c X WW (.Attribute e f pos) (fun ρ => bd (me ρ) fun d => bd (insM k d) fun d => noX (callM 1 m [d])) := by
  have G' : FnR X.prog X.w X.K X.mg X.base (L2.CX X.prog X.w) n g (PromF c 1 m) := by rw [h.k]; exact G.r
  refine ⟨h.k, PE.imp (SlX.pe_propSl (E := E0) h.p (h.k ▸ C) (by rw [h.k]; exact t.at_) (by rw [h.k]; exact t.get) (by rw [h.k]; exact t.tk) (by rw [h.k]; exact t.rc) G' hr (fun H s er s' z => by
    obtain ⟨_, _, _, _, _, _, _, _, _, _, _, _, z⟩ := z
    exact z.elim) hb) fun σ H Q ⟨Ψ, ρ, S, F, so, eo, q⟩ => ⟨Ψ, ρ, S, F, so, eo, q.bd.mono fun d S1 q1 Ψ1 v H1 x1 s1 r1 => ?_⟩⟩
  have q2 := q1.bd
  unfold insM at q2
  split at q2
  · split at q2
    · rename_i _ fs _ ek _
      subst ek
      have q3 : Post c (WW σ) Ψ H (noX (callM 1 m [.ins _ fs]) S1) _ := q2
      cases r1 with
      | ins h0 r0 =>
        refine ⟨_, _, _, rfl, slt_phi s1 h0, ?_⟩
        exact prom_of (E := E0) (ds := [.ins _ fs]) s1 (.cons (.ins h0 r0) .nil) ((Post.noX (W' := E0) q3).ext x1) fun d' S' Ψ' v H' q4 e2 s2 r2 => q4 Ψ' v H' (x1.trans e2) s2 r2
    · exact q2.elim
  · exact q2.elim
theorem passes_wx {E : XK} (tk : Takes X (wx (cW E))) : Passes (L2.CX X.prog X.w) X E := fun _ _ _ _ e s' I z => tk e s' (XE.of_call I (fun _ _ _ h => h) z)
/-- o.m(e, ..) of an instance -/
theorem se_meth {mo : Env → M D} {ma : Env → M (List D)} {g : Addr} {n nn : Nat} {m : List D → M D} {E : XK} {nm : Str} {pl : Sem Bool} (ho : SE c X (cW E) o mo) (ha : SA c X (cW E) (e :: es) ma) (C : SlX.SCls c.K (c.cls k)) (hm : Meth c.K (c.cls k) nm g) (G : Fn c X.prog X.w X.mg X.base n g nn m) (hr : Room n X.A) (tk : Takes X (wx (cW E)))
    (hst : starEach (e :: es) X.env = (false, eval e X.env) :: starEach es X.env := by rfl) (hpl : (backTo pos (starEach es X.env)).any (·.1) = false := by rfl)
    (ht : eval (.Call (.Attribute o nm apos) (e :: es) [] pos) X.env = (do
      let ov ← eval o X.env
      standAt apos.atName
      let (f, first) ← holding [ov] (getMethod ov nm pl)
      callWith pos f first (backTo pos (starEach (e :: es) X.env)) (backToKw pos (keywordEach [] X.env))) := by rfl) :
    SE c X (cW E) (.Call (.Attribute o nm apos) (e :: es) [] pos) (fun ρ => bd (mo ρ) fun d => bd (insM k d) fun d => bd (ma ρ) fun ds => callM nn m (d :: ds)) := by
  have G' : FnR X.prog X.w X.K X.mg X.base (L2.CX X.prog X.w) n g (PromF c nn m) := by rw [ho.k]; exact G.r
  refine ⟨ho.k, PE.imp (SlX.pe_methSl ho.p (ho.k ▸ C) (ho.k ▸ hm) G' hr (passes_wx tk) ha.p hst hpl ht) fun σ H Q ⟨Ψ, ρ, S, F, so, eo, q⟩ => ⟨Ψ, ρ, S, F, so, eo, q.bd.mono fun d S1 q1 Ψ1 v H1 x1 s1 r1 => ?_⟩⟩
  have q2 := q1.bd
  unfold insM at q2
  split at q2
  · split at q2
    · rename_i _ fs _ ek _
      subst ek
      have q3 : Post c E Ψ H (bd (ma ρ) (fun ds => callM nn m (.ins _ fs :: ds)) S1) _ := q2
      cases r1 with
      | ins h0 r0 =>
        refine ⟨_, _, _, rfl, slt_phi s1 h0, Ψ1, ρ, S1, F, s1, eo.ext x1, (Post.ext x1 q3).bd.mono fun ds S2 q4 Ψ2 ws H2 x2 s2 r2 => ?_⟩
        exact prom_of (ds := .ins _ fs :: ds) s2 (.cons (Rep.mono x2.le (.ins h0 r0)) r2) (q4.ext x2) fun d' S' Ψ' v H' q5 e2 s3 r3 => q5 Ψ' v H' ((x1.trans x2).trans e2) s3 r3
    · exact q2.elim
  · exact q2.elim
theorem se_meth0 {mo : Env → M D} {g : Addr} {n nn : Nat} {m : List D → M D} {E : XK} {nm : Str} {pl : Sem Bool} (ho : SE c X (cW E) o mo) (C : SlX.SCls c.K (c.cls k)) (hm : Meth c.K (c.cls k) nm g) (G : Fn c X.prog X.w X.mg X.base n g nn m) (hr : Room n X.A) (tk : Takes X (wx (cW E)))
    (ht : eval (.Call (.Attribute o nm apos) [] [] pos) X.env = (do
      let ov ← eval o X.env
      standAt apos.atName
      let (f, first) ← holding [ov] (getMethod ov nm pl)
      callWith pos f first (backTo pos (starEach [] X.env)) (backToKw pos (keywordEach [] X.env))) := by rfl) :
    SE c X (cW E) (.Call (.Attribute o nm apos) [] [] pos) (fun ρ => bd (mo ρ) fun d => bd (insM k d) fun d => callM nn m [d]) := by
  have G' : FnR X.prog X.w X.K X.mg X.base (L2.CX X.prog X.w) n g (PromF c nn m) := by rw [ho.k]; exact G.r
  refine ⟨ho.k, PE.imp (SlX.pe_methSl0 ho.p (ho.k ▸ C) (ho.k ▸ hm) G' hr (passes_wx tk) ht) fun σ H Q ⟨Ψ, ρ, S, F, so, eo, q⟩ => ⟨Ψ, ρ, S, F, so, eo, q.bd.mono fun d S1 q1 Ψ1 v H1 x1 s1 r1 => ?_⟩⟩
  have q2 := q1.bd
  unfold insM at q2
  split at q2
  · split at q2
    · rename_i _ fs _ ek _
      subst ek
      have q3 : Post c E Ψ H (callM nn m [.ins _ fs] S1) _ := q2
      cases r1 with
      | ins h0 r0 =>
        refine ⟨_, _, _, rfl, slt_phi s1 h0, ?_⟩
        exact prom_of (ds := [.ins _ fs]) s1 (.cons (.ins h0 r0) .nil) (q3.ext x1) fun d' S' Ψ' v H' q5 e2 s3 r3 => q5 Ψ' v H' (x1.trans e2) s3 r3
    · exact q2.elim
  · exact q2.elim

/-! ### made -/
def allS : List (Option D) → Option (List D)
  | [] => some []
  | some d :: r => (allS r).map (d :: ·)
  | none :: _ => none
def iniE (ρ : Env) : M D := fun S => match ρ[0]? with
  | some (Slot.ownI k fs) => match allS fs with
    | some ds => .ok (.ins k ds) S
    | none => .stuck
  | _ => .stuck
def iniM (o : Out) : M D := match o with
  | .nx ρ => iniE ρ
  | _ => stk
def initM (n nf k : Nat) (mb : Env → M Out) (ds : List D) : M D := bd (mb (.ownI k (List.replicate nf none) :: (ds.map Slot.val ++ List.replicate (n - 1 - ds.length) .no))) iniM
def PromI (c : Cf) (n k : Nat) (m : List D → M D) : Sp := fun vs H Q E => ∃ Ψ S ds H0 a dx ws, vs = .ref a :: ws ∧ H0 a = none ∧ H0 dx = none ∧ dx ≠ a ∧ H = upd (upd H0 dx (.own a)) a (.ins (c.cls k) dx []) ∧ StoOk c Ψ H0 S ∧ Reps c Ψ ws ds ∧ ds.length = n ∧
  Post c E Ψ H0 (m ds S) (fun d S' => ∀ Ψ' H', Ext Ψ H0 Ψ' H' → StoOk c Ψ' H' S' → Rep c Ψ' (.ref a) d → Q .non H')
theorem Ext.knowP {Ψ0 Ψ : Wd} {H0 H : Hp} {a : Addr} {o : HO} (x : Ext Ψ0 H0 Ψ H) (h : H0 a = none) (n : Ψ.fz a = none) : Ext Ψ0 H0 (Ψ.know a o) H :=
  ⟨x.le.trans (Le.know n), x.dom, fun b u e => by
    by_cases z : b = a
    · subst z; exact .inr h
    · have e' : L2.upd Ψ.fz a o b = some u := e
      rw [upd_ne z] at e'
      exact x.nphi b u e', x.nmu, x.keep⟩
theorem RepsO.all {Ψ : Wd} : ∀ {fs : List (Option D)} {vs : List (Option V)} {ds : List D}, allS fs = some ds → vs.length ≤ fs.length → RepsO c Ψ vs fs → ∃ ws, vs = ws.map some ∧ Reps c Ψ ws ds
  | [], [], _, h, _, _ => by
    cases h
    exact ⟨[], rfl, .nil⟩
  | [], _ :: _, _, _, l, _ => by cases l
  | none :: _, _, _, h, _, _ => by cases h
  | some d :: fs, vs, ds, h, l, r => by
    unfold allS at h
    cases e : allS fs with
    | none => rw [e] at h; cases h
    | some ds' =>
      rw [e] at h
      cases h
      obtain ⟨v, h1, h2⟩ := r 0 d rfl
      cases vs with
      | nil => cases h1
      | cons v0 vs =>
        have e0 : v0 = some v := Option.some.inj h1
        subst e0
        obtain ⟨ws, e1, e2⟩ := RepsO.all (vs := vs) e (Nat.le_of_succ_le_succ l) fun i d hi => r (i + 1) d hi
        exact ⟨v :: ws, by rw [e1]; rfl, .cons h2 e2⟩
end
section
variable {c : Cf} {P : Program} {w : World} {mg : Str → Option Value} {base : Heap} {x qual : Str} {params : Arguments} {body : List Stmt} {scope : Scope} {dvs : List V} {kws : List (Str × V)} {f : Addr} {fd : FuncData} {N ps : List Str} {k nf kc : Nat} {mb : Env → M Out}
theorem env_init {Ψ : Wd} {H0 : Hp} {N : List Str} {ws : List V} {ds : List D} {a dx : Addr} (r : Reps c Ψ ws ds) {S : Sto} (so : StoOk c Ψ H0 S) (ha : H0 a = none) (hdx : H0 dx = none) (ne : dx ≠ a) (hN : 1 ≤ N.length) :
    EnvOk c Ψ (L2.start N (.ref a :: ws)) (.ownI kc (List.replicate nf none) :: (ds.map Slot.val ++ List.replicate (N.length - 1 - ds.length) .no)) (upd (upd H0 dx (.own a)) a (.ins (c.cls kc) dx [])) (fun j => if j = 0 then [a, dx] else []) := by
  have hl := r.length
  have e1 := env_start (c := c) (Ψ := Ψ) (H := upd (upd H0 dx (.own a)) a (.ins (c.cls kc) dx [])) (N := N.tail) r
  have hs : L2.start N (.ref a :: ws) = some (.ref a) :: L2.start N.tail ws := by
    unfold L2.start
    rw [List.map_cons, List.length_cons, List.length_tail, List.cons_append]
    congr 3
    omega
  have hd : N.tail.length - ds.length = N.length - 1 - ds.length := by rw [List.length_tail]
  rw [hd] at e1
  rw [hs]
  have hb : ∀ j b, b ∈ (if j = 0 then [a, dx] else []) → j = 0 ∧ (b = a ∨ b = dx) := fun j b h => by
    by_cases z : j = 0
    · rw [if_pos z] at h
      simp at h
      exact ⟨z, h⟩
    · rw [if_neg z] at h
      cases h
  refine ⟨by rw [List.length_cons, List.length_cons, e1.len], fun j s hj => ?_, fun j hj => ?_, fun j b h => ?_, fun j l b n h1 h2 => ?_⟩
  · cases j with
    | zero =>
      cases hj
      have ndx : (upd (upd H0 dx (.own a)) a (.ins (c.cls kc) dx [])) dx ≠ none := by
        rw [upd_ne ne, upd_same]; exact fun z => nomatch z
      exact ⟨a, dx, [], rfl, rfl, .inl ⟨upd_same, rfl⟩, ndx, ne, Nat.zero_le _, fun i d hi => by
        rw [List.getElem?_replicate] at hi
        split at hi
        · cases hi
        · cases hi⟩
    | succ j => exact e1.slot j s hj
  · cases j with
    | zero => cases hj
    | succ j => rfl
  · obtain ⟨_, h2⟩ := hb j b h
    have p1 : Ψ.fz b = none ∧ ¬ Foot Ψ b := by
      rcases h2 with rfl | rfl
      · exact ⟨so.phiNone ha, so.footNone ha⟩
      · exact ⟨so.phiNone hdx, so.footNone hdx⟩
    refine ⟨p1.1, p1.2, ?_⟩
    rcases h2 with rfl | rfl
    · rw [upd_same]; exact fun z => nomatch z
    · rw [upd_ne ne, upd_same]; exact fun z => nomatch z
  · obtain ⟨z1, _⟩ := hb j b h1
    obtain ⟨z2, _⟩ := hb l b h2
    exact n (z1.trans z2.symm)
theorem initOk_mk {n : Nat} (F : FunD c.K x qual params body scope dvs kws f fd) (sc : FnScope N ps scope) (hn : ps.length = n + 1) (hN : 1 ≤ N.length)
    (hbody : ∀ (cdv : Value) (A : Around) (outer : List PySem.Env) (s : Shared) (H : Hp) (E : XK), Room k (A.deeper (envOfC qual scope s.heap.objs.size f cdv)) → SSs c (cxOf (L2.CX P w) P w c.K mg base N qual scope f cdv A outer s H E) E body mb) :
    FnOk P w c.K mg base (L2.CX P w) (k + 1) f fd ps (PromI c n kc (initM N.length nf kc mb)) := by
  refine F.ok sc (fun vs H Q E h => ?_) fun cdv A outer s H vs Q E hr h => ⟨_, (hbody cdv A outer s H E hr).p, ?_⟩
  · obtain ⟨Ψ, S, ds, H0, a, dx, ws, rfl, _, _, _, _, _, r, l, _⟩ := h
    rw [List.length_cons, r.length, l, hn]
  · obtain ⟨Ψ, S, ds, H0, a, dx, ws, rfl, ha, hdx, ne, rfl, so, r, l, q⟩ := h
    have hda : (upd H0 dx (.own a)) a = none := by rw [upd_ne (Ne.symm ne)]; exact ha
    refine ⟨⟨Ψ, H0, a⟩, Ψ, _, S, _, ⟨(Ext.lay hdx).trans (Ext.lay hda), (so.lay hdx).lay hda, env_init r so ha hdx ne hN, fun j b h => ?_, fun k fs h => ?_⟩, (Post.bd q).mono fun o S' q' => ?_⟩
    · by_cases z : j = 0
      · simp only [z, if_true] at h
        simp at h
        rcases h with rfl | rfl
        · exact ha
        · exact hdx
      · rw [if_neg z] at h
        cases h
    · unfold L2.start
      rfl
    · cases o with
      | nx ρ =>
        intro Ψ' σ' H' F' g
        have q2 : Post c E Ψ H0 (iniE ρ S') _ := q'
        unfold iniE at q2
        split at q2
        · rename_i k' fs hs
          split at q2
          · rename_i dl hall
            obtain ⟨a', dx', vs, hF, h1, h2, h3, h4, h5, h6⟩ := g.eo.slot 0 _ hs
            have em := g.me k' fs hs
            rw [h1] at em
            have ea : a' = a := by
              have := Option.some.inj (Option.some.inj em)
              injection this
            subst ea
            obtain ⟨ws', ev, rw'⟩ := RepsO.all hall h5 h6
            subst ev
            have pa := g.eo.priv 0 a' (by rw [hF]; simp)
            have pd := g.eo.priv 0 dx' (by rw [hF]; simp)
            have fa := g.fr 0 a' (by rw [hF]; simp)
            have fd' := g.fr 0 dx' (by rw [hF]; simp)
            obtain ⟨oa, hoa⟩ : ∃ oa, H' a' = some oa := by
              cases e : H' a' with
              | none => exact absurd e pa.2.2
              | some oa => exact ⟨oa, rfl⟩
            obtain ⟨od, hod⟩ : ∃ od, H' dx' = some od := by
              cases e : H' dx' with
              | none => exact absurd e pd.2.2
              | some od => exact ⟨od, rfl⟩
            have nd : (Ψ'.know a' oa).fz dx' = none := by
              show L2.upd Ψ'.fz a' oa dx' = none
              rw [upd_ne h4]; exact pd.1
            have so2 := (g.so.know hoa pa.1 pa.2.1).know hod nd pd.2.1
            have x2 := (Ext.knowP (o := oa) g.x fa pa.1).knowP (o := od) fd' nd
            have le2 : Le Ψ' ((Ψ'.know a' oa).know dx' od) := (Le.know pa.1).trans (Le.know nd)
            refine q2 _ H' x2 so2 (.ins (dx := dx') (vs := ws') ?_ (rw'.mono le2))
            have k1 : ((Ψ'.know a' oa).know dx' od).fz a' = some oa := by
              show L2.upd (L2.upd Ψ'.fz a' oa) dx' od a' = _
              rw [upd_ne (Ne.symm h4), upd_same]
            have k2 : ((Ψ'.know a' oa).know dx' od).fz dx' = some od := upd_same
            rcases h2 with ⟨z1, z2⟩ | ⟨z1, z2⟩
            · rw [hoa] at z1
              exact .inl ⟨by rw [k1]; exact z1, z2⟩
            · rw [hoa] at z1
              rw [hod] at z2
              exact .inr ⟨by rw [k1]; exact z1, by rw [k2]; exact z2⟩
          · exact q2.elim
        · exact q2.elim
      | ret d => exact q'.elim
      | bk ρ => exact q'.elim
      | ct ρ => exact q'.elim
end
end Sm

/-! text: Sim16 -/
set_option Elab.async false
set_option linter.all false
set_option maxRecDepth 100000
set_option maxHeartbeats 1000000
namespace Sm
open PySem PySem.Spec PyProof.Rows L2
/-- keywords' values -/
structure SK (c : Cf) (X : Cx) (W : L2.St → XK) (kws : List Keyword) (m : Env → M (List D)) : Prop where
  k : X.K = c.K
  p : PK X kws (rA c W m)
theorem PK.imp {X : Cx} {es : List Keyword} {t u : TA} (h : PK X es t) (k : ∀ σ H Q, u σ H Q → t σ H Q) : PK X es u := ⟨fun pos pins s σ H Q I q => h.run pos pins s σ H Q I (k _ _ _ q)⟩
section
variable {c : Cf} {X : Cx} {W : L2.St → XK} {e : Expr} {kws : List Keyword} {nm : Option Str} {kpos : Pos}
theorem sk_nil (k : X.K = c.K) : SK c X W [] (fun _ => rt []) := ⟨k, PK.imp pk_nil fun σ H Q ⟨Ψ, ρ, S, F, so, eo, q⟩ => q Ψ [] H (Ext.refl _ _) so .nil⟩
theorem sk_cons {m : Env → M D} {ms : Env → M (List D)} (h : SE c X W e m) (t : SK c X W kws ms) : SK c X W (⟨nm, e, kpos⟩ :: kws) (fun ρ => consM (m ρ) (ms ρ)) := by
  refine ⟨h.k, PK.imp (pk_cons h.p t.p) fun σ H Q ⟨Ψ, ρ, S, F, so, eo, q⟩ => ⟨Ψ, ρ, S, F, so, eo, q.bd.mono fun d S1 q1 Ψ1 x H1 e1 so1 r1 => ?_⟩⟩
  refine ⟨Ψ1, ρ, S1, F, so1, eo.ext e1, (q1.ext e1).bd.mono fun ds S2 q2 Ψ2 xs H2 e2 so2 r2 => ?_⟩
  exact q2 Ψ2 _ H2 (e1.trans e2) so2 (.cons (r1.mono e2.le) r2)
end
section
variable {c : Cf} {P : Program} {w : World} {mg : Str → Option Value} {base : Heap} {f : Addr} {fd : FuncData} {ps : List Str} {k n : Nat} {m : List D → M D}
/-- a def with its defaults (in ds: all that lack) -/
theorem fn_dfl {ds : List Value} {dvs : List V} {des : List D} (F : FnOk P w c.K mg base (L2.CX P w) k f fd ps (PromF c ps.length m)) (kp : PySem.W.keepIn c.K (.ref f) = true) (hb : Binds c.K fd ps ds) (hd : Vals dvs ds) (r : ∀ Ψ, Reps c Ψ dvs des) (hn : n + des.length = ps.length) :
    Fn c P w mg base k f n (fun xs => m (xs ++ des)) := by
  refine ⟨(F.raw hb hd).imp fun vs H Q E ⟨Ψ, S, xs, so, rr, l, q⟩ => ⟨Ψ, S, xs ++ des, so, rr.app (r Ψ), by rw [List.length_append, l, hn], q⟩, kp⟩
/-- a class that may be made: k args, its number kc -/
structure Mk1 (c : Cf) (P : Program) (w : World) (mg : Str → Option Value) (base : Heap) (k kc n : Nat) (m : List D → M D) : Prop where
  ex : ∃ (f : Addr) (fd : FuncData) (ps : List Str) (ds : List Value) (dvs : List V) (des : List D), Mk c.K (c.cls kc) f ∧ FnOk P w c.K mg base (L2.CX P w) k f fd ps (PromI c (n + des.length) kc (fun xs => m xs)) ∧ Binds c.K fd ps ds ∧ Vals dvs ds ∧ ∀ Ψ, Reps c Ψ dvs des
end
section
variable {c : Cf} {X : Cx} {W : XK} {pos pos' apos cpos p p2 : Pos} {i j k kc n : Nat} {x y f : Str} {a b e o : Expr} {es : List Expr} {kws : List Keyword}
/-- C(e, ..) -/
theorem se_make {ma : Env → M (List D)} {m : List D → M D} {g : Addr} {fd : FuncData} {ps : List Str} {E : XK} {ad : Addr} (M : Mk c.K (c.cls kc) g) (F : FnOk X.prog X.w c.K X.mg X.base (L2.CX X.prog X.w) k g fd ps (PromI c n kc m)) (hb : Binds c.K fd ps []) (hr : Room (k + 1) X.A) (hm : X.mg x = some (.ref (c.cls kc))) (tk : Takes X (wx (cW E)))
    (ha : SA c X (cW E) (e :: es) ma) (hg : Gl X x := by rfl) (hdb : (x == ("__debug__" : Str)) = false := by decide) (he : starEach (e :: es) X.env = (false, eval e X.env) :: starEach es X.env := by rfl) (hpl : (backTo pos (starEach es X.env)).any (·.1) = false := by rfl) :
    SE c X (cW E) (.Call (.Name x p) (e :: es) [] pos) (fun ρ => bd (ma ρ) fun ds => callM n m ds) := by
  have F' : FnOk X.prog X.w X.K X.mg X.base (L2.CX X.prog X.w) k g fd ps (PromI c n kc m) := by rw [ha.k]; exact F
  have hb' : Binds X.K fd ps [] := by rw [ha.k]; exact hb
  have M' : Mk X.K (c.cls kc) g := by rw [ha.k]; exact M
  refine ⟨ha.k, PE.imp (pe_make M' F' hr hg hm hb' .nil (passes_wx tk) ha.p hdb he hpl) fun σ H Q ⟨Ψ, ρ, S, Fo, so, eo, q⟩ => ⟨Ψ, ρ, S, Fo, so, eo, q.bd.mono fun ds S1 q1 Ψ1 vs H1 e1 so1 r1 => ?_⟩⟩
  intro a' dx hx hdx ne
  unfold callM at q1
  split at q1
  · rename_i hl _
    rw [List.append_nil]
    exact ⟨Ψ1, S1, ds, H1, a', dx, vs, rfl, hx, hdx, ne, rfl, so1, r1, hl, (q1.ext e1).mono fun d S' q2 Ψ' H' e2 s2 r2 => ⟨rfl, q2 Ψ' _ H' (e1.trans e2) s2 r2⟩⟩
  · exact q1.elim
/-- C(k = v, ..): all by keywords -/
theorem se_makeK {mk : Env → M (List D)} {m : List D → M D} {g : Addr} {fd : FuncData} {ps ks : List Str} {E : XK} {gg : List Value → List Value → List Value} {gV : List V → List V → List V} {gD : List D → List D} (M : Mk c.K (c.cls kc) g) (F : FnOk X.prog X.w c.K X.mg X.base (L2.CX X.prog X.w) k g fd ps (PromI c n kc m)) (hb : KBn c.K fd ps 1 ks gg gV)
    (hgV : ∀ (Ψ : Wd) (v : V) (zs : List V) (ds : List D), Reps c Ψ zs ds → zs.length = ks.length → ∃ ws, gV [v] zs = v :: ws ∧ Reps c Ψ ws (gD ds)) (hr : Room (k + 1) X.A) (hm : X.mg x = some (.ref (c.cls kc))) (tk : Takes X (wx (cW E)))
    (hk : SK c X (cW E) kws mk) (hg : Gl X x := by rfl) (hall : (backToKw pos (keywordEach kws X.env)).all (·.1.isSome) = true := by rfl) (hks : (backToKw pos (keywordEach kws X.env)).filterMap (·.1) = ks := by rfl) (hdb : (x == ("__debug__" : Str)) = false := by decide)
    (hpl : ((backTo pos (starEach [] X.env)).any (·.1) || (backToKw pos (keywordEach kws X.env)).any (·.1.isNone)) = false := by rfl) :
    SE c X (cW E) (.Call (.Name x p) [] kws pos) (fun ρ => bd (mk ρ) fun ds => bd (opt (if ds.length = ks.length then some () else none)) fun _ => callM n m (gD ds)) := by
  have F' : FnOk X.prog X.w X.K X.mg X.base (L2.CX X.prog X.w) k g fd ps (PromI c n kc m) := by rw [hk.k]; exact F
  have hb' : KBn X.K fd ps 1 ks gg gV := by rw [hk.k]; exact hb
  have M' : Mk X.K (c.cls kc) g := by rw [hk.k]; exact M
  refine ⟨hk.k, PE.imp (pe_makeK0 M' F' hr hg hm hb' (passes_wx tk) hk.p hall hks hdb hpl) fun σ H Q ⟨Ψ, ρ, S, Fo, so, eo, q⟩ => ?_⟩
  refine ⟨Ψ, ρ, S, Fo, so, eo, q.bd.mono fun ds S1 q1 Ψ1 zs H1 e1 so1 r1 => ?_⟩
  have q2 := q1.bd
  unfold opt at q2
  split at q2
  · rename_i hl
    split at hl
    · rename_i hl2
      refine ⟨rfl, by rw [r1.length]; exact hl2, fun a' dx hx hdx ne => ?_⟩
      obtain ⟨ws, ew, rw'⟩ := hgV Ψ1 (.ref a') zs ds r1 (by rw [r1.length]; exact hl2)
      have q3 : Post c E Ψ H (callM n m (gD ds) S1) _ := q2
      unfold callM at q3
      split at q3
      · rename_i hl3 _
        rw [ew]
        exact ⟨Ψ1, S1, gD ds, H1, a', dx, ws, rfl, hx, hdx, ne, rfl, so1, rw', hl3, (q3.ext e1).mono fun d S' q2 Ψ' H' e2 s2 r2 => ⟨rfl, q2 Ψ' _ H' (e1.trans e2) s2 r2⟩⟩
      · exact q3.elim
    · cases hl
  · exact q2.elim
/-- f(e, .., k = v, ..) -/
theorem se_callK {ma mk : Env → M (List D)} {m : List D → M D} {g : Addr} {fd : FuncData} {ps ks : List Str} {E : XK} {gg : List Value → List Value → List Value} {gV : List V → List V → List V} {gD : List D → List D → List D} (F : FnOk X.prog X.w c.K X.mg X.base (L2.CX X.prog X.w) k g fd ps (PromF c ps.length m)) (kp : PySem.W.keepIn c.K (.ref g) = true) (hb : KBn c.K fd ps n ks gg gV)
    (hgV : ∀ (Ψ : Wd) (vs zs : List V) (es ds : List D), Reps c Ψ vs es → Reps c Ψ zs ds → vs.length = n → zs.length = ks.length → Reps c Ψ (gV vs zs) (gD es ds)) (hr : Room k X.A) (hm : X.mg x = some (.ref g)) (tk : Takes X (wx (cW E)))
    (ha : SA c X (cW E) (e :: es) ma) (hk : SK c X (cW E) kws mk) (hg : Gl X x := by rfl) (hall : (backToKw pos (keywordEach kws X.env)).all (·.1.isSome) = true := by rfl) (hks : (backToKw pos (keywordEach kws X.env)).filterMap (·.1) = ks := by rfl)
    (hdb : (x == ("__debug__" : Str)) = false := by decide) (he : starEach (e :: es) X.env = (false, eval e X.env) :: starEach es X.env := by rfl)
    (hpl : ((backTo pos (starEach (e :: es) X.env)).any (·.1) || (backToKw pos (keywordEach kws X.env)).any (·.1.isNone)) = false := by rfl) :
    SE c X (cW E) (.Call (.Name x p) (e :: es) kws pos) (fun ρ => bd (ma ρ) fun ds => bd (mk ρ) fun zs => bd (opt (if ds.length = n ∧ zs.length = ks.length then some () else none)) fun _ => callM ps.length m (gD ds zs)) := by
  have F' : FnOk X.prog X.w X.K X.mg X.base (L2.CX X.prog X.w) k g fd ps (PromF c ps.length m) := by rw [hk.k]; exact F
  have hb' : KBn X.K fd ps n ks gg gV := by rw [hk.k]; exact hb
  refine ⟨hk.k, PE.imp (pe_callN F' hr hg hm (by rw [hk.k]; exact kp) hb' (passes_wx tk) ha.p hk.p hall hks hdb he hpl) fun σ H Q ⟨Ψ, ρ, S, Fo, so, eo, q⟩ => ?_⟩
  refine ⟨Ψ, ρ, S, Fo, so, eo, q.bd.mono fun ds S1 q1 Ψ1 vs H1 e1 so1 r1 => ⟨Ψ1, ρ, S1, Fo, so1, eo.ext e1, (q1.ext e1).bd.mono fun zd S2 q2 Ψ2 zs H2 e2 so2 r2 => ?_⟩⟩
  have q3 := q2.bd
  unfold opt at q3
  split at q3
  · rename_i hl
    split at hl
    · rename_i hl2
      have lv : vs.length = n := by rw [r1.length]; exact hl2.1
      have lz : zs.length = ks.length := by rw [r2.length]; exact hl2.2
      refine ⟨lv, lz, ?_⟩
      have q4 : Post c E Ψ1 H1 (callM ps.length m (gD ds zd) S2) _ := q3
      exact prom_of so2 (hgV Ψ2 vs zs ds zd (r1.mono e2.le) r2 lv lz) (q4.ext e2) fun d' S' Ψ' v H' q5 e3 s3 r3 => q5 Ψ' v H' ((e1.trans e2).trans e3) s3 r3
    · cases hl
  · exact q3.elim

/-! ### self.f = e in __init__ -/
def selfM (k i : Nat) (ρ : Env) (v : D) : M Out := fun S => match ρ[0]? with
  | some (Slot.ownI k' fs) => match Nat.decEq k' k with
    | .isTrue _ => if i < fs.length then .ok (.nx (ρ.set 0 (.ownI k' (fs.set i (some v))))) S else .stuck
    | .isFalse _ => .stuck
  | _ => .stuck
theorem ss_self {me : Env → M D} {ad : Addr} {px : Pos} (h : SE c X (cW W) e me) (C : SlX.SCls c.K (c.cls k)) (t : SlX.Slot1 c.K (c.cls k) f ad i) (hN : X.N[0]? = some x := by rfl) (hv : Vis X.env.scope x := by first | exact Or.inl rfl | exact Or.inr (Or.inl rfl) | exact Or.inr (Or.inr rfl)) (hd : (x == ("__debug__" : Str)) = false := by decide)
    (hcd : (x == ("__classdict__" : Str)) = false := by decide) (hs : swapsWith e (some (.Attribute (.Name x px) f pos')) pos.line X.env = pure false := by rfl) :
    SS c X W (.Assign [.Attribute (.Name x px) f pos'] e pos) (fun ρ => bd (me ρ) fun v => selfM k i ρ v) := by
  refine ⟨h.k, PS.imp (SlX.ps_sl (pe_var hN hv hd hcd) h.p hs) fun D σ H ⟨B, Ψ, ρ, S, F, g, q⟩ => ⟨Ψ, ρ, S, F, g.so, g.eo, (q.bd.ext g.x).mono fun v S1 q1 Ψ1 y H1 x1 s1 r1 => ?_⟩⟩
  have g1 := g.ext x1 s1
  unfold selfM at q1
  split at q1
  · rename_i k' fs hs0
    split at q1
    · rename_i ek _
      split at q1
      · rename_i hi
        subst ek
        obtain ⟨a', dx, vs, hF, h1, h2, h3, h4, h5, h6⟩ := g1.eo.slot 0 _ hs0
        refine ⟨.ref a', h1, a', _, dx, ad, vs, i, rfl, h2, h.k ▸ C, h.k ▸ t, ?_⟩
        have ha : a' ∈ F 0 := by rw [hF]; simp
        have hdx : dx ∈ F 0 := by rw [hF]; simp
        have hl : 0 < ρ.length := (List.getElem?_eq_some_iff.mp hs0).1
        -- first the own dict
        have g2 : Gd c B Ψ1 σ (ρ.set 0 (.ownI k' fs)) (L2.upd H1 dx (.xd [])) F S1 := by
          refine g1.upd hs0 hdx ⟨a', dx, vs, hF, h1, ?_, (by rw [upd_same]; exact fun z => nomatch z), h4, h5, h6⟩ fun _ _ _ => ⟨_, _, rfl⟩
          rcases h2 with ⟨z1, z2⟩ | ⟨z1, z2⟩
          · exact .inl ⟨by rw [upd_ne (Ne.symm h4)]; exact z1, z2⟩
          · exact .inr ⟨by rw [upd_ne (Ne.symm h4)]; exact z1, upd_same⟩
        have hs2 : (ρ.set 0 (.ownI k' fs))[0]? = some (.ownI k' fs) := List.getElem?_set_self hl
        have hlen : (SlX.putS i y vs).length ≤ (fs.set i (some v)).length := by
          unfold SlX.putS
          rw [List.length_set, List.length_append, List.length_replicate, List.length_set]
          omega
        have ro : RepsO c Ψ1 (SlX.putS i y vs) (fs.set i (some v)) := fun j d hj => by
          by_cases z : j = i
          · subst z
            rw [List.getElem?_set_self hi] at hj
            cases hj
            exact ⟨y, SlX.putS_get _ _ _, r1⟩
          · rw [List.getElem?_set_ne (Ne.symm z)] at hj
            obtain ⟨v', e1, e2⟩ := h6 j d hj
            exact ⟨v', (SlX.putS_ne z).mpr e1, e2⟩
        have g3 := g2.upd (s' := .ownI k' (fs.set i (some v))) (o := SlX.SlO a' (c.cls k') dx (SlX.putS i y vs)) hs2 ha ⟨a', dx, SlX.putS i y vs, hF, h1, .inr ⟨upd_same, by rw [upd_ne h4, upd_same]⟩, (by rw [upd_ne h4, upd_same]; exact fun z => nomatch z), h4, hlen, ro⟩ fun _ _ _ => ⟨_, _, rfl⟩
        rw [List.set_set] at g3
        exact q1 Ψ1 σ _ F g3
      · exact q1.elim
    · exact q1.elim
  · exact q1.elim
end

/-! ### the law's own def -/
def spLaw (c : Cf) (m : List D → M D) : Sp := fun vs H Q _ => ∃ (a : Addr) (ns : List Int), vs = [.ref a] ∧ SqL c.K H a (ns.map V.int) ∧ ns.length ≤ 63 ∧ ∀ H', Q (.bl true) H'
end Sm

/-! text: Sim17 -/
set_option Elab.async false
set_option linter.all false
set_option maxRecDepth 100000
set_option maxHeartbeats 1000000
namespace Sm
open PySem PySem.Spec PyProof.Rows L2
open AutoSeq1 (wpAny_loadPart')
theorem tuple_mul1 (l : Addr) (items : Array Value) (n : Nat) (dd : Option Addr) (sl : Array (Option Value)) (u : Tok) :
    Meets (Builtin.«tuple.__mul__» ⟨[.ref l, .int 1 u], []⟩) (fun _ R s => s.heap.get? l = some { cls := .type "tuple", dict := dd, data := .seq items n, slots := sl } ∧ R (.ok (.ret (Value.ref l))) s) :=
  .of_wp fun prog w A R s h => by
    obtain ⟨hp, g, d, tk, os⟩ := s
    obtain ⟨hl, h⟩ := h
    have f1 := AutoSeq1.idx_int
    have c1 : (items.isEmpty || (1 : Int) == 1) = true := by rw [Bool.or_eq_true]; exact .inr rfl
    wp_walk using wpAny_loadPart' hl
    exact ⟨_, rfl, h⟩
def rRepT1 (K : PySem.W.Frag) : R2 := fun x y H Q => ∃ l xs, x = .ref l ∧ y = .int 1 ∧ SqT K H l xs ∧ Q (.ref l) H
theorem op_repT1 {X : Cx} : OpR X (binaryOp .Mult) (rRepT1 X.K) := by
  intro pins s σ H x y v u Q I rx ry h
  obtain ⟨l, xs, rfl, rfl, hT, q⟩ := h
  cases rx
  obtain ⟨t, rfl⟩ := ry
  obtain ⟨its, r, ⟨⟨cls, dd, data, sl⟩, ho, hc, n, hd⟩, hs⟩ := I.tuple hT
  simp only at hc hd
  subst hc hd
  exact wpAny_binaryOp_repeat_ref (T := "tuple") (U := "int") (by decide) ⟨_, ho, rfl⟩ (fun s' => typeIs_int s' 1 t) noFill_tuple_mul F.fills_int_mul F.slot_int_rmul repeat_tuple F.slot_int_index.lookup
    (call_meets F.slot_int_rmul (typeIs_int s 1 t) F.entry_int_rmul (F.args_int_rmul_2 _ _) (int_rmul_tuple 1 t l its.toArray n dd sl)
      ⟨ho, rfl, ⟨_, ho, rfl⟩, call_meets F.slot_tuple_mul ⟨_, ho, rfl⟩ F.entry_tuple_mul (F.args_tuple_mul_2 _ _) (tuple_mul1 l its.toArray n dd sl t) ⟨ho, ⟨.ref l, H, I, rfl, q⟩⟩⟩)
def mulT1 : D → D → Sto → Option D := fun a b _ => match a, b with
  | .tup ds, .int 1 => some (.tup ds)
  | _, _ => none
theorem v2_mulT1 {c : Cf} : V2 c (rRepT1 c.K) mulT1 := by
  intro Ψ H S x y a b d Q s ra rb e q
  unfold mulT1 at e
  split at e
  · cases e
    obtain ⟨a1, vs, rfl, h1, _, r1⟩ := ra.tup s
    cases rb.int
    exact ⟨a1, vs, rfl, rfl, h1, fin0 s q (ra.rep fun _ z => by cases z)⟩
  · cases e

/-! ### the rules by one word each -/
def o2 (f : D → D → Sto → Option D) (a b : M D) : M D := bd a fun x => bd b fun y => op2 f x y
def o2N (f : D → D → Sto → Option (List D)) (a b : M D) : M (List D) := bd a fun x => bd b fun y => op2N f x y
def orD (f g : D → D → Sto → Option D) : D → D → Sto → Option D := fun a b S => match f a b S with
  | some d => some d
  | none => g a b S
def addA : D → D → Sto → Option D := orD addI (orD addS addT)
def mulA : D → D → Sto → Option D := orD mulI (orD mulT1 mulT)
section
variable {c : Cf} {X : Cx} {W : L2.St → XK} {a b e : Expr} {es : List Expr} {pos p : Pos} {ma mb mc : Env → M D} {ms : Env → M (List D)}
theorem se_add (ha : SB c X W a ma) (hb : SB c X W b mb) : SE c X W (.BinOp a .Add b pos) (fun ρ => o2 addA (ma ρ) (mb ρ)) := se_op (op_add.or (op_add_str.or op_catA)) (V2.or v2_addI (V2.or v2_addS (ha.k ▸ v2_addT))) ha hb
theorem sn_add (ha : SB c X W a ma) (hb : SB c X W b mb) : SN c X W (.BinOp a .Add b pos) (fun ρ => o2N addL (ma ρ) (mb ρ)) := sn_op op_cat v2_addL ha hb
theorem se_sub (ha : SB c X W a ma) (hb : SB c X W b mb) : SE c X W (.BinOp a .Sub b pos) (fun ρ => o2 subI (ma ρ) (mb ρ)) := se_op op_sub v2_subI ha hb
theorem se_mul (ha : SB c X W a ma) (hb : SB c X W b mb) : SE c X W (.BinOp a .Mult b pos) (fun ρ => o2 mulA (ma ρ) (mb ρ)) := se_op (op_mul.or (op_repT1.or op_repT)) (V2.or v2_mulI (V2.or (ha.k ▸ v2_mulT1) (ha.k ▸ v2_mulT))) ha hb
theorem sn_mul (ha : SB c X W a ma) (hb : SB c X W b mb) : SN c X W (.BinOp a .Mult b pos) (fun ρ => o2N mulL (ma ρ) (mb ρ)) := sn_op op_rep v2_mulL ha hb
theorem se_div (ha : SB c X W a ma) (hb : SB c X W b mb) : SE c X W (.BinOp a .FloorDiv b pos) (fun ρ => o2 divI (ma ρ) (mb ρ)) := se_op op_fdivW v2_divI ha hb
theorem se_mod (ha : SB c X W a ma) (hb : SB c X W b mb) : SE c X W (.BinOp a .Mod b pos) (fun ρ => o2 modI (ma ρ) (mb ρ)) := se_op op_mod v2_modI ha hb
theorem se_pow (ha : SB c X W a ma) (hb : SB c X W b mb) : SE c X W (.BinOp a .Pow b pos) (fun ρ => o2 powI (ma ρ) (mb ρ)) := se_op op_pow v2_powI ha hb
theorem se_eq (hu : X.A.units + 64 < cLine) (ha : SB c X W a ma) (hb : SB c X W b mb) : SE c X W (.Compare a [.Eq] [b] pos) (fun ρ => o2 eqD (ma ρ) (mb ρ)) := se_cmp (op_eqP hu) (ha.k ▸ v2_eqD) ha hb
theorem se_ne (hu : X.A.units + 64 < cLine) (ha : SB c X W a ma) (hb : SB c X W b mb) : SE c X W (.Compare a [.NotEq] [b] pos) (fun ρ => o2 neD (ma ρ) (mb ρ)) := se_cmp (op_neP hu) (ha.k ▸ v2_neD) ha hb
theorem se_lt (ha : SB c X W a ma) (hb : SB c X W b mb) : SE c X W (.Compare a [.Lt] [b] pos) (fun ρ => o2 ltI (ma ρ) (mb ρ)) := se_cmp op_lt v2_ltI ha hb
theorem se_le (ha : SB c X W a ma) (hb : SB c X W b mb) : SE c X W (.Compare a [.LtE] [b] pos) (fun ρ => o2 leI (ma ρ) (mb ρ)) := se_cmp op_le v2_leI ha hb
theorem se_gt (ha : SB c X W a ma) (hb : SB c X W b mb) : SE c X W (.Compare a [.Gt] [b] pos) (fun ρ => o2 gtI (ma ρ) (mb ρ)) := se_cmp op_gt v2_gtI ha hb
theorem se_ge (ha : SB c X W a ma) (hb : SB c X W b mb) : SE c X W (.Compare a [.GtE] [b] pos) (fun ρ => o2 geI (ma ρ) (mb ρ)) := se_cmp op_ge v2_geI ha hb
theorem se_in (hu : X.A.units + 64 < cLine) (ha : SB c X W a ma) (hb : SB c X W b mb) (hm : behindInMarks .In b = false := by first | rfl | with_unfolding_all rfl) : SE c X W (.Compare a [.In] [b] pos) (fun ρ => o2 (inD false) (ma ρ) (mb ρ)) := se_cmp (op_inP hu) (ha.k ▸ v2_inD) ha hb hm
theorem se_nin (hu : X.A.units + 64 < cLine) (ha : SB c X W a ma) (hb : SB c X W b mb) (hm : behindInMarks .NotIn b = false := by first | rfl | with_unfolding_all rfl) : SE c X W (.Compare a [.NotIn] [b] pos) (fun ρ => o2 (inD true) (ma ρ) (mb ρ)) := se_cmp (op_notInP hu) (ha.k ▸ v2_inD) ha hb hm
theorem st_eq (hu : X.A.units + 64 < cLine) (ha : SB c X W a ma) (hb : SB c X W b mb) : ST c X W (.Compare a [.Eq] [b] pos) (fun ρ => boolT (o2 eqD (ma ρ) (mb ρ))) := st_cmp (op_eqP hu) (ha.k ▸ v2_eqD) ha hb
theorem st_ne (hu : X.A.units + 64 < cLine) (ha : SB c X W a ma) (hb : SB c X W b mb) : ST c X W (.Compare a [.NotEq] [b] pos) (fun ρ => boolT (o2 neD (ma ρ) (mb ρ))) := st_cmp (op_neP hu) (ha.k ▸ v2_neD) ha hb
theorem st_lt (ha : SB c X W a ma) (hb : SB c X W b mb) : ST c X W (.Compare a [.Lt] [b] pos) (fun ρ => boolT (o2 ltI (ma ρ) (mb ρ))) := st_cmp op_lt v2_ltI ha hb
theorem st_le (ha : SB c X W a ma) (hb : SB c X W b mb) : ST c X W (.Compare a [.LtE] [b] pos) (fun ρ => boolT (o2 leI (ma ρ) (mb ρ))) := st_cmp op_le v2_leI ha hb
theorem st_gt (ha : SB c X W a ma) (hb : SB c X W b mb) : ST c X W (.Compare a [.Gt] [b] pos) (fun ρ => boolT (o2 gtI (ma ρ) (mb ρ))) := st_cmp op_gt v2_gtI ha hb
theorem st_ge (ha : SB c X W a ma) (hb : SB c X W b mb) : ST c X W (.Compare a [.GtE] [b] pos) (fun ρ => boolT (o2 geI (ma ρ) (mb ρ))) := st_cmp op_ge v2_geI ha hb
theorem st_in (hu : X.A.units + 64 < cLine) (ha : SB c X W a ma) (hb : SB c X W b mb) (hm : behindInMarks .In b = false := by first | rfl | with_unfolding_all rfl) : ST c X W (.Compare a [.In] [b] pos) (fun ρ => boolT (o2 (inD false) (ma ρ) (mb ρ))) := st_cmp (op_inP hu) (ha.k ▸ v2_inD) ha hb hm
theorem st_nin (hu : X.A.units + 64 < cLine) (ha : SB c X W a ma) (hb : SB c X W b mb) (hm : behindInMarks .NotIn b = false := by first | rfl | with_unfolding_all rfl) : ST c X W (.Compare a [.NotIn] [b] pos) (fun ρ => boolT (o2 (inD true) (ma ρ) (mb ρ))) := st_cmp (op_notInP hu) (ha.k ▸ v2_inD) ha hb hm
/-- chains of ints -/
theorem se_leLe {d : Expr} (ha : SB c X W a ma) (hb : SB c X W b mb) (hd : SB c X W d mc) (h1 : lastMarks [.LtE, .LtE] [b, d] = false := by with_unfolding_all rfl) : SE c X W (.Compare a [.LtE, .LtE] [b, d] pos) (fun ρ => chainM leI leI (ma ρ) (mb ρ) (mc ρ)) := se_chain op_le op_le v2_leI v2_leI ha hb hd h1
theorem se_leLt {d : Expr} (ha : SB c X W a ma) (hb : SB c X W b mb) (hd : SB c X W d mc) (h1 : lastMarks [.LtE, .Lt] [b, d] = false := by with_unfolding_all rfl) : SE c X W (.Compare a [.LtE, .Lt] [b, d] pos) (fun ρ => chainM leI ltI (ma ρ) (mb ρ) (mc ρ)) := se_chain op_le op_lt v2_leI v2_ltI ha hb hd h1
/-- built-ins -/
def c1 (f : List D → Sto → Option D) (m : M (List D)) : M D := bd m fun ds => opC f ds
def c1N (f : List D → Sto → Option (List D)) (m : M (List D)) : M (List D) := bd m fun ds => opCN f ds
theorem se_len (ha : SAB c X W (e :: es) ms) (hm : X.mg "len" = none) (hg : Gl X "len" := by rfl) (he : starEach (e :: es) X.env = (false, eval e X.env) :: starEach es X.env := by rfl) (hpl : (backTo pos (starEach es X.env)).any (·.1) = false := by rfl) :
    SE c X W (.Call (.Name "len" p) (e :: es) [] pos) (fun ρ => c1 lenD (ms ρ)) := se_callB call_lenA (ha.k ▸ vc_len) ha hm boot_len hg (by decide) (by decide) he hpl
theorem se_all (ha : SAB c X W (e :: es) ms) (hm : X.mg "all" = none) (hg : Gl X "all" := by rfl) (hc : X.calm = true := by rfl) (he : starEach (e :: es) X.env = (false, eval e X.env) :: starEach es X.env := by rfl) (hpl : (backTo pos (starEach es X.env)).any (·.1) = false := by rfl) :
    SE c X W (.Call (.Name "all" p) (e :: es) [] pos) (fun ρ => c1 allD (ms ρ)) := se_callB (cr_all hc) (ha.k ▸ vc_all) ha hm boot_all hg (by decide) (by decide) he hpl
theorem se_any (ha : SAB c X W (e :: es) ms) (hm : X.mg "any" = none) (hg : Gl X "any" := by rfl) (hc : X.calm = true := by rfl) (he : starEach (e :: es) X.env = (false, eval e X.env) :: starEach es X.env := by rfl) (hpl : (backTo pos (starEach es X.env)).any (·.1) = false := by rfl) :
    SE c X W (.Call (.Name "any" p) (e :: es) [] pos) (fun ρ => c1 anyD (ms ρ)) := se_callB (cr_any hc) (ha.k ▸ vc_any) ha hm boot_any hg (by decide) (by decide) he hpl
theorem se_tuple (ha : SAB c X W (e :: es) ms) (hm : X.mg "tuple" = none) (hg : Gl X "tuple" := by rfl) (he : starEach (e :: es) X.env = (false, eval e X.env) :: starEach es X.env := by rfl) (hpl : (backTo pos (starEach es X.env)).any (·.1) = false := by rfl) :
    SE c X W (.Call (.Name "tuple" p) (e :: es) [] pos) (fun ρ => c1 tupleD (ms ρ)) := se_callTy call_tuple_of (ha.k ▸ vc_tuple) ha hm boot_tuple hg (by decide) (by decide) he hpl
theorem sn_list (ha : SAB c X W (e :: es) ms) (hm : X.mg "list" = none) (hg : Gl X "list" := by rfl) (he : starEach (e :: es) X.env = (false, eval e X.env) :: starEach es X.env := by rfl) (hpl : (backTo pos (starEach es X.env)).any (·.1) = false := by rfl) :
    SN c X W (.Call (.Name "list" p) (e :: es) [] pos) (fun ρ => c1N listD (ms ρ)) := sn_callTy call_list_of (ha.k ▸ vc_list) ha hm boot_list hg (by decide) (by decide) he hpl
theorem se_toInt (ha : SAB c X W (e :: es) ms) (hm : X.mg "int" = none) (hg : Gl X "int" := by rfl) (he : starEach (e :: es) X.env = (false, eval e X.env) :: starEach es X.env := by rfl) (hpl : (backTo pos (starEach es X.env)).any (·.1) = false := by rfl) :
    SE c X W (.Call (.Name "int" p) (e :: es) [] pos) (fun ρ => c1 intD (ms ρ)) := se_callTy call_int1 vc_int ha hm boot_int hg (by decide) (by decide) he hpl
theorem se_abs (ha : SAB c X W (e :: es) ms) (hm : X.mg "abs" = none) (hg : Gl X "abs" := by rfl) (he : starEach (e :: es) X.env = (false, eval e X.env) :: starEach es X.env := by rfl) (hpl : (backTo pos (starEach es X.env)).any (·.1) = false := by rfl) :
    SE c X W (.Call (.Name "abs" p) (e :: es) [] pos) (fun ρ => c1 absD (ms ρ)) := se_callB call_abs vc_abs ha hm (by decide +kernel) hg (by decide) (by decide) he hpl
theorem se_max (ha : SAB c X W (e :: es) ms) (hm : X.mg "max" = none) (hg : Gl X "max" := by rfl) (hc : X.calm = true := by rfl) (he : starEach (e :: es) X.env = (false, eval e X.env) :: starEach es X.env := by rfl) (hpl : (backTo pos (starEach es X.env)).any (·.1) = false := by rfl) :
    SE c X W (.Call (.Name "max" p) (e :: es) [] pos) (fun ρ => c1 max2D (ms ρ)) := se_callB (call_max2 hc) vc_max2 ha hm boot_max hg (by decide) (by decide) he hpl
theorem se_min (ha : SAB c X W (e :: es) ms) (hm : X.mg "min" = none) (hg : Gl X "min" := by rfl) (hc : X.calm = true := by rfl) (he : starEach (e :: es) X.env = (false, eval e X.env) :: starEach es X.env := by rfl) (hpl : (backTo pos (starEach es X.env)).any (·.1) = false := by rfl) :
    SE c X W (.Call (.Name "min" p) (e :: es) [] pos) (fun ρ => c1 min2D (ms ρ)) := se_callB (call_min2 hc) vc_min2 ha hm boot_min hg (by decide) (by decide) he hpl
theorem se_isi (ha : SAB c X W (e :: es) ms) (hm : X.mg "isinstance" = none) (hg : Gl X "isinstance" := by rfl) (he : starEach (e :: es) X.env = (false, eval e X.env) :: starEach es X.env := by rfl) (hpl : (backTo pos (starEach es X.env)).any (·.1) = false := by rfl) :
    SE c X W (.Call (.Name "isinstance" p) (e :: es) [] pos) (fun ρ => c1 isiD (ms ρ)) := se_callB call_isi (ha.k ▸ vc_isi) ha hm (by decide +kernel) hg (by decide) (by decide) he hpl
theorem se_iso {n : Nat} (C : CF c n) (ha : SAB c X W (e :: es) ms) (hm : X.mg "isinstance" = none) (hg : Gl X "isinstance" := by rfl) (he : starEach (e :: es) X.env = (false, eval e X.env) :: starEach es X.env := by rfl) (hpl : (backTo pos (starEach es X.env)).any (·.1) = false := by rfl) :
    SE c X W (.Call (.Name "isinstance" p) (e :: es) [] pos) (fun ρ => c1 (isoD n) (ms ρ)) := se_callB call_iso (ha.k ▸ vc_iso C) ha hm (by decide +kernel) hg (by decide) (by decide) he hpl
end
end Sm

/-! text: Sim18 -/
set_option Elab.async false
set_option linter.all false
set_option maxRecDepth 100000
set_option maxHeartbeats 1000000
namespace Sm
open PySem PySem.Spec PyProof.Rows L2
def negM (m : M D) : M D := bd m fun x => fun S => match x with
  | .int i => .ok (.int (-i)) S
  | _ => .stuck
section
variable {c : Cf} {X : Cx} {W : L2.St → XK} {a b d e : Expr} {es : List Expr} {pos p : Pos} {ma mb mc : Env → M D}
theorem se_neg (h : SE c X W a ma) : SE c X W (.UnaryOp .USub a pos) (fun ρ => negM (ma ρ)) := by
  refine ⟨h.k, PE.imp (pe_un un_neg h.p) fun σ H Q ⟨Ψ, ρ, S, F, so, eo, q⟩ => ⟨Ψ, ρ, S, F, so, eo, q.bd.mono fun x S1 q1 Ψ1 v H1 x1 s1 r1 => ?_⟩⟩
  split at q1
  · cases r1
    exact ⟨_, rfl, q1 Ψ1 _ H1 x1 s1 (.int _)⟩
  · exact q1.elim
theorem st_chain {op op' : CmpOp} {r r' : R2} {f g : D → D → Sto → Option D} (ho : OpR X (compareOp op) r) (ho' : OpR X (compareOp op') r') (hr : V2 c r f) (hr' : V2 c r' g) (ha : SB c X W a ma) (hb : SB c X W b mb) (hd : SB c X W d mc)
    (h1 : lastMarks [op, op'] [b, d] = false := by with_unfolding_all rfl) : ST c X W (.Compare a [op, op'] [b, d] pos) (fun ρ => boolT (chainM f g (ma ρ) (mb ρ) (mc ρ))) := by
  refine ⟨ha.k, PT.imp (pt_chain ho ho' ha.p hb.p hd.p h1) fun σ H Q ⟨Ψ, ρ, S, F, so, eo, q⟩ => ?_⟩
  refine chain_r hr hr' ⟨Ψ, ρ, S, F, so, eo, q.bd.mono fun x S1 q1 Ψ1 v H1 x1 s1 r1 => ?_⟩
  unfold asB at q1
  split at q1
  · cases r1
    exact ⟨_, rfl, q1 Ψ1 H1 x1 s1⟩
  · exact q1.elim
theorem st_leLe (ha : SB c X W a ma) (hb : SB c X W b mb) (hd : SB c X W d mc) (h1 : lastMarks [.LtE, .LtE] [b, d] = false := by with_unfolding_all rfl) : ST c X W (.Compare a [.LtE, .LtE] [b, d] pos) (fun ρ => boolT (chainM leI leI (ma ρ) (mb ρ) (mc ρ))) := st_chain op_le op_le v2_leI v2_leI ha hb hd h1
theorem st_leLt (ha : SB c X W a ma) (hb : SB c X W b mb) (hd : SB c X W d mc) (h1 : lastMarks [.LtE, .Lt] [b, d] = false := by with_unfolding_all rfl) : ST c X W (.Compare a [.LtE, .Lt] [b, d] pos) (fun ρ => boolT (chainM leI ltI (ma ρ) (mb ρ) (mc ρ))) := st_chain op_le op_lt v2_leI v2_ltI ha hb hd h1
/-- x = [.. for .. in ..] on one line -/
theorem ss_setLc {W : XK} {mi : Env → M (List D)} {mt : Env → M Bool} {me : Env → M D} {t : Tg} {elt tg iter : Expr} {ifs : List Expr} {scope : Scope} {own : List (Str × Nat)} {py spos : Pos} {i : Nat} {y : Str} (hi : SIC c X (cW W) tg iter mi) (hN : X.N.Nodup) (ok : BlkOk X.N X.env.scope scope own) (hv : ∀ i ∈ t.is, i ∈ own.map (·.2))
    (hg : ∀ (s : Shared) (H : Hp) (C : Addr) (cl : List (Str × Addr)) (fp : List Addr), SG (X.blk s H scope (compEnvC scope cl C X.env) fp) tg t) (ht : ∀ (s : Shared) (H : Hp) (C : Addr) (cl : List (Str × Addr)) (fp : List Addr), STs c (X.blk s H scope (compEnvC scope cl C X.env) fp) WF ifs mt)
    (he : ∀ (s : Shared) (H : Hp) (C : Addr) (cl : List (Str × Addr)) (fp : List Addr), SE c (X.blk s H scope (compEnvC scope cl C X.env) fp) WF elt me) (hy : X.N[i]? = some y := by rfl) (hyl : X.env.scope.names.lookup y = some .local := by rfl)
    (hk : X.env.scope.kind = .function := by rfl) (hl : (py.line == pos.line) = true := by rfl) (ha : (scope.names.any fun (n, k) => n == y && (k == .local || k == .cell)) = false := by rfl)
    (hc : X.calm = true := by rfl) (hs : ∀ x, foldedSetIterable iter X.env x = pure x := by intro _; rfl) :
    SS c X W (.Assign [.Name y py] (.ListComp elt [⟨tg, iter, ifs, 0⟩] scope pos) spos) (fun ρ => bd (bd (mi ρ) fun ds => noX (lcM (fun d => bindD t d (wipeE ρ (own.map (·.2)))) mt me ds)) fun ds => rt (.nx (ρ.set i (.own ds)))) :=
  ⟨hi.k, PS.imp (ps_setLc hc hN hy hyl (sw_true hk hyl hl ha) hi.p ok (fun s H C cl fp => hi.k ▸ (hg s H C cl fp).p) (fun s H C cl fp => (ht s H C cl fp).p) (fun s H C cl fp => (he s H C cl fp).p) hs) fun D σ H ⟨B, Ψ, ρ, S, F, g, q⟩ =>
    lc_r (W := cW W) hv ⟨Ψ, ρ, S, F, g.so, g.eo, (q.bd.ext g.x).mono fun ds S1 q1 Ψ1 a vs H1 x1 s1 h1 l1 r1 p1 f1 n1 => by
      obtain ⟨F', g'⟩ := g.setN i x1 s1 h1 l1 r1 p1 f1 n1
      exact q1 Ψ1 _ H1 F' g'⟩⟩
end
/-! ### short words for the mirrors -/
def setV (i : Nat) (m : Env → M D) : Env → M Out := fun ρ => bd (m ρ) fun d => rt (.nx (ρ.set i (.val d)))
def setN (i : Nat) (m : Env → M (List D)) : Env → M Out := fun ρ => bd (m ρ) fun ds => rt (.nx (ρ.set i (.own ds)))
def appS (i : Nat) (m : Env → M D) : Env → M Out := fun ρ => bd (ownAt ρ i) fun ds => bd (m ρ) fun d => fun S => if ds.length < LIM then .ok (.nx (ρ.set i (.own (ds ++ [d])))) S else .stuck
def insS (i : Nat) (m : Env → M (List D)) : Env → M Out := fun ρ => bd (ownAt ρ i) fun ds => bd (m ρ) fun as => fun S => match as with
  | [.int k, d] => if ds.length < LIM ∧ 0 ≤ k ∧ k < 100000 then .ok (.nx (ρ.set i (.own (ds.take k.toNat ++ [d] ++ ds.drop k.toNat)))) S else .stuck
  | _ => .stuck
def parS (is : List Nat) (n : Nat) (m : Env → M (List Slot)) : Env → M Out := fun ρ => bd (m ρ) fun ss => fun S => if ss.length = n then .ok (.nx (setsM ρ is ss)) S else .stuck
def asgT (t : Tg) (m : Env → M D) : Env → M Out := fun ρ => bd (m ρ) fun d => match bindD t d ρ with
  | some ρ' => rt (.nx ρ')
  | none => stk
def setDct (i : Nat) (m : Env → M D) : Env → M Out := fun ρ => bd (m ρ) fun d => fun S => match d with
  | .lst ds => match pairsL ds with
    | some ks => .ok (.nx (ρ.set i (.ownD (mergeL [] ks)))) S
    | none => .stuck
  | _ => .stuck
def dsetS (i : Nat) (m mk : Env → M D) : Env → M Out := fun ρ => bd (m ρ) fun v => bd (dctAt ρ i) fun ks => bd (mk ρ) fun k => fun S => match keyD k with
  | some kk => if ks.length < LIM then .ok (.nx (ρ.set i (.ownD (putL ks kk v)))) S else .stuck
  | none => .stuck
def setIx (i : Nat) (m mk : Env → M D) : Env → M Out := fun ρ => bd (m ρ) fun v => bd (opt (match ρ[i]? with
  | some (.val (.ref n)) => some ()
  | some (.own ds) => some ()
  | _ => none)) fun _ => bd (mk ρ) fun k => match k with
  | .int k => setAt ρ i k v
  | _ => stk
def dixM (ρ : Env) (i : Nat) (m : M D) : M D := bd (dctAt ρ i) fun ks => bd m fun k => opt ((keyD k).bind (getL ks))
def kdM (vs : List (Str × D)) (m : M D) : M D := bd m fun y => fun S => match y with
  | .str z => match lkS vs z with
    | some d => .ok d S
    | none => .stuck
  | _ => .stuck
def inKDM (vs : List (Str × D)) (m : M D) : M D := bd m fun y => fun S => match y with
  | .str z => match lkS vs z with
    | some _ => .ok (.bl true) S
    | none => .stuck
  | _ => .stuck
def kidxM (ys : List Str) (m : M D) : M D := bd m fun y => fun S => match y with
  | .str z => match idxS ys z with
    | some j => .ok (.int (j : Nat)) S
    | none => .stuck
  | _ => .stuck
def idxM (o m : M D) : M D := bd o fun d => bd (asL d) fun ds => bd m fun y => opt (idxD (.lst ds) y)
def inRngM (a b : M D) : M Bool := bd a fun x => bd b fun y => fun S => match x, y with
  | .int i, .int j => .ok (decide (0 ≤ i ∧ i < j)) S
  | _, _ => .stuck
def listRgM (a : M D) : M (List D) := bd a fun y => fun S => match y with
  | .int j => if 0 ≤ j ∧ j ≤ 100000 then .ok (rng 0 j.toNat) S else .stuck
  | _ => .stuck
def range1M (m : M (List D)) : M (List D) := bd m fun ds => fun S => match ds with
  | [.int j] => if inI j = true then .ok (rng 0 j.toNat) S else .stuck
  | _ => .stuck
def range2M (m : M (List D)) : M (List D) := bd m fun ds => fun S => match ds with
  | [.int i, .int j] => if (inI i && inI j) = true then .ok (rng i (j - i).toNat) S else .stuck
  | _ => .stuck
def range3M (m : M (List D)) : M (List D) := bd m fun ds => fun S => match ds with
  | [.int i, .int j, .int k] => if rgCB i j k (Builtin.Range.rangeSize i j k).toNat = true then .ok (rngC i k (Builtin.Range.rangeSize i j k).toNat) S else .stuck
  | _ => .stuck
def ownM (d : D) : M (List D) := fun S => match d with
  | .lst ds => .ok ds S
  | _ => .stuck
section
variable {c : Cf} {X : Cx} {W : XK} {pos pos' apos cpos : Pos} {i j l : Nat} {x y z : Str} {a b d e : Expr}
theorem ss_parS {ma : Env → M (List Slot)} {px py pt : Pos} {kt k2 pt2} (ha : SAM c X (cW W) [a, b] ma) (hN : X.N.Nodup) (hi : X.N[i]? = some x := by rfl) (hj : X.N[j]? = some y := by rfl) (hij : i ≠ j := by decide)
    (hx : X.env.scope.names.lookup x = some .local := by rfl) (hy : X.env.scope.names.lookup y = some .local := by rfl)
    (hw : swappedStores [.Tuple [.Name x px, .Name y py] kt pt] (.Tuple [a, b] k2 pt2) X.env = pure (some [x, y]) := by rfl)
    (hs : swapsWithSole [.Tuple [.Name x px, .Name y py] kt pt] (.Tuple [a, b] k2 pt2) pos.line X.env = pure false := by rfl) (hc : X.calm = true := by rfl) :
    SS c X W (.Assign [.Tuple [.Name x px, .Name y py] kt pt] (.Tuple [a, b] k2 pt2) pos) (parS [i, j] 2 ma) := ss_par ha hN hi hj hij hx hy hw hs hc
theorem ss_parS3 {ma : Env → M (List Slot)} {px py pz pt : Pos} {kt k2 pt2} (ha : SAM c X (cW W) [a, b, d] ma) (hN : X.N.Nodup) (hi : X.N[i]? = some x := by rfl) (hj : X.N[j]? = some y := by rfl) (hl : X.N[l]? = some z := by rfl) (hij : i ≠ j := by decide) (hil : i ≠ l := by decide) (hjl : j ≠ l := by decide)
    (hx : X.env.scope.names.lookup x = some .local := by rfl) (hy : X.env.scope.names.lookup y = some .local := by rfl) (hz : X.env.scope.names.lookup z = some .local := by rfl)
    (hw : swappedStores [.Tuple [.Name x px, .Name y py, .Name z pz] kt pt] (.Tuple [a, b, d] k2 pt2) X.env = pure (some [x, y, z]) := by rfl)
    (hs : swapsWithSole [.Tuple [.Name x px, .Name y py, .Name z pz] kt pt] (.Tuple [a, b, d] k2 pt2) pos.line X.env = pure false := by rfl) (hc : X.calm = true := by rfl) :
    SS c X W (.Assign [.Tuple [.Name x px, .Name y py, .Name z pz] kt pt] (.Tuple [a, b, d] k2 pt2) pos) (parS [i, j, l] 3 ma) := ss_par3 ha hN hi hj hl hij hil hjl hx hy hz hw hs hc
end
end Sm

/-! text: Sim22 -/
set_option Elab.async false
set_option linter.all false
set_option maxRecDepth 100000
set_option maxHeartbeats 2000000
namespace HT
open PySem PySem.Spec PyProof.Rows
section
variable {prog : Program} {w : World} {A : Around} {E : Value → Shared → Prop} {s : Shared}
theorem adjust_rev (n : Nat) : Builtin.Slice.sliceAdjust none none (-1) (n : Int) = ((n : Int) - 1, -1) := by
  unfold Builtin.Slice.sliceAdjust
  rfl
theorem places_rev (n : Nat) : Builtin.Slice.slicePlaces ((n : Int) - 1) (-1) (-1) = n := by
  unfold Builtin.Slice.slicePlaces
  have h1 : ¬ (-1 : Int) > 0 := by omega
  rw [if_neg h1]
  by_cases h : (n : Int) - 1 > -1
  · rw [if_pos h]
    have e : ((n : Int) - 1 - -1 - 1) / (- -1) + 1 = (n : Int) := by
      rw [show (- -1 : Int) = 1 by decide, Int.ediv_one]
      omega
    rw [e]
    simp
  · rw [if_neg h]
    omega
theorem sliceApplied_rev {sl : Addr} {vs : Value} {n : Nat} {Q : Int × Int × Nat → Shared → Prop} (hs : s.heap.IsSliceOf sl .none .none vs) (ps : IsPart vs (some (-1)))
    (h : Q ((n : Int) - 1, -1, n) s) : wpAny (model prog w) A (Builtin.Slice.sliceApplied (.ref sl) (pure (n : Int))) Q E s := by
  obtain ⟨os, hos, hcs, hds⟩ := id hs
  unfold Builtin.Slice.sliceApplied Builtin.Slice.sliceFields
  refine wpAny_bind (wpAny_bind (wpAny_field hos hds (x := .none) rfl (wpAny_bind (wpAny_field hos hds (x := .none) rfl (wpAny_bind (wpAny_field hos hds (x := vs) rfl (wpAny_pure ?_)))))))
  refine wpAny_bind (slicePart_ ps ?_)
  show wpAny _ _ (if ((-1 : Int) == 0) = true then _ else _) _ _ s
  rw [if_neg (by decide)]
  refine wpAny_bind (slicePart_none (wpAny_bind (slicePart_none (wpAny_bind (wpAny_pure ?_)))))
  show wpAny _ _ (match Builtin.Slice.sliceAdjust none none (-1) (n : Int) with | (lo, hi) => pure (lo, (-1 : Int), Builtin.Slice.slicePlaces lo hi (-1))) _ _ s
  rw [adjust_rev n]
  show wpAny _ _ (pure ((n : Int) - 1, (-1 : Int), Builtin.Slice.slicePlaces ((n : Int) - 1) (-1) (-1))) _ _ s
  rw [places_rev]
  exact wpAny_pure h
theorem fm_congr {α β : Type} {f g : α → Option β} : ∀ {l : List α}, (∀ x ∈ l, f x = g x) → l.filterMap f = l.filterMap g
  | [], _ => rfl
  | a :: l, h => by
    rw [List.filterMap_cons, List.filterMap_cons, h a List.mem_cons_self, fm_congr fun x hx => h x (List.mem_cons_of_mem _ hx)]
theorem pick_rev (xs : Array Value) : ((List.range xs.size).filterMap fun (m : Nat) => xs[(((xs.size : Int) - 1) + (m : Int) * (-1)).toNat]?).toArray = xs.toList.reverse.toArray := by
  have e : (List.range xs.size).filterMap (fun (m : Nat) => xs[(((xs.size : Int) - 1) + (m : Int) * (-1)).toNat]?) = ((List.range xs.size).map (fun k => xs.size - 1 - k)).filterMap (xs[·]?) := by
    rw [List.filterMap_map]
    apply fm_congr
    intro k hk
    have := List.mem_range.mp hk
    show xs[(((xs.size : Int) - 1) + (k : Int) * (-1)).toNat]? = xs[xs.size - 1 - k]?
    congr 1
    omega
  rw [e, PySem.W.krv_range, List.filterMap_reverse, PySem.W.krv_all]
theorem getItem_tuple_rev {t sl : Addr} {items : Array Value} {vs : Value} {Q : Value → Shared → Prop} (ht : IsTup s.heap t items) (hs : s.heap.IsSliceOf sl .none .none vs) (ps : IsPart vs (some (-1)))
    (h : Q (.ref s.heap.objs.size) { s with heap := s.heap.push { cls := .type "tuple", data := .seq items.toList.reverse.toArray } })
    (hsz : items.size ≤ sizeLine) : wpAny (model prog w) A (getItem (.ref t) (.ref sl)) Q E s := by
  have htake : sizeOk (.seq items.toList.reverse.toArray) := by
    show items.toList.reverse.toArray.size ≤ sizeLine
    rw [List.size_toArray, List.length_reverse, Array.length_toList]
    exact hsz
  obtain ⟨os, hos, hcs, hds⟩ := id hs
  have hTs : s.TypeIs (.ref sl) "slice" := ⟨os, hos, hcs⟩
  unfold getItem
  try with_reducible refine wpAny_holding ?_
  first | refine wpAny_bind (wpAny_pure ?_) | skip
  refine wpAny_bind (wpAny_sequenceKey ht.typeIs (by decide) ?_)
  refine wpAny_bind (wpAny_callSpecial?_slot (name := Str.ofString "__getitem__") ht.typeIs PyProof.Rows.slot_tuple_getitem
    (wpAny_call_entry PyProof.Rows.slot_tuple_getitem ht.typeIs entry_tuple_getitem ?_ (args_tuple_getitem _ _)))
  show wpAny _ _ (Builtin.Tuple.tupleItemsOf (.ref t) >>= _) _ _ s
  refine wpAny_bind (tupleItemsOf_ ht ?_)
  refine wpAny_bind (wpAny_typeOf hTs ?_)
  rw [if_pos (by decide)]
  refine wpAny_bind (sliceApplied_rev hs ps ?_)
  show wpAny _ _ (if ((((items.size : Int) - 1) == 0 && (-1 : Int) == 1 && items.size == items.size) = true) then _ else _) _ _ s
  have hno : ¬ ((((items.size : Int) - 1) == 0 && (-1 : Int) == 1 && items.size == items.size) = true) := by
    intro q
    rw [Bool.and_eq_true, Bool.and_eq_true] at q
    exact absurd q.1.2 (by decide)
  rw [if_neg hno, pick_rev]
  first
    | exact wpAny_bind (m := Builtin.Tuple.tupleExact _) (wpAny_newObj_type (wpAny_pure ⟨_, rfl, wpAny_pure h⟩) htake)
    | exact wpAny_bind (m := Builtin.Tuple.tupleExact _) (wpAny_newObj_type (wpAny_bind (wpAny_pure (wpAny_pure ⟨_, rfl, wpAny_pure h⟩))) htake)
    | exact wpAny_bind (wpAny_bind (m := Builtin.Tuple.tupleExact _) (wpAny_newObj_type (wpAny_pure (wpAny_pure ⟨_, rfl, wpAny_pure h⟩)) htake))
    | exact wpAny_bind (wpAny_bind (m := Builtin.Tuple.tupleExact _) (wpAny_newObj_type (wpAny_pure ⟨_, rfl, wpAny_pure h⟩) htake))
end
end HT

namespace L2
open PySem PySem.Spec PyProof.Rows
/-- a tuple turned about -/
def tRevT (K : PySem.W.Frag) (te : TE) : TE := fun σ H Q => te σ H fun x H1 => ∃ a xs, x = .ref a ∧ SqT K H1 a xs ∧ ∀ p, H1 p = none → Q (.ref p) (upd H1 p (.tup xs.reverse))
theorem pe_revT {X : Cx} {e : Expr} {te : TE} {k : Nat} {p1 p2 p3 pos : Pos} (he : PE X e te) : PE X (.Subscript e (.Slice none none (some (.UnaryOp .USub (.Constant (.int 1) k p1) p2)) p3) pos) (tRevT X.K te) := by
  refine ⟨fun pins s σ H Q I h => ?_⟩
  refine Subscript_ (thn (he.run pins s σ H _ I h) fun v s1 ⟨x, H1, I1, r1, q1⟩ => ?_)
  obtain ⟨a, xs, ex, hx, q⟩ := q1
  subst ex
  cases r1
  have hst : PO X (some (.UnaryOp .USub (.Constant (.int 1) k p1) p2)) (tPart (tUn (rU fun i => .int (-i)) (tC (.int 1)))) := po_some (pe_un un_neg pe_int)
  refine wpAny_Slice (thn (po_none.run pins s1 σ H1 (fun o H2 => o = none ∧ H2 = H1) I1 ⟨rfl, rfl⟩) fun vl s2 ⟨l, H2, I2, pl, el, e2⟩ => ?_)
  subst el e2
  refine thn (po_none.run pins s2 σ H2 (fun o H3 => o = none ∧ H3 = H2) I2 ⟨rfl, rfl⟩) fun vu s3 ⟨u, H3, I3, pu, eu, e3⟩ => ?_
  subst eu e3
  refine thn (hst.run pins s3 σ H3 (fun o H4 => o = some (-1) ∧ H4 = H3) I3 ⟨1, rfl, -1, rfl, rfl, rfl⟩) fun vs s4 ⟨o, H4, I4, ps, eo, e4⟩ => ?_
  subst eo e4
  cases pl
  cases pu
  have I5 : Inv X pins σ H4 { s4 with heap := s4.heap.push { cls := .type "slice", data := .fields #[.none, .none, vs] } } := I4.kept (t' := s4.toks) fun b ob q => Heap.get?_push_of_some _ q
  obtain ⟨its, r, ht, hz⟩ := I5.tuple hx
  have hlen := r.length
  show wpAny (model X.prog X.w) X.A (subscriptTail e (.Slice none none (some (.UnaryOp .USub (.Constant (.int 1) k p1) p2)) p3) (.ref a) (.ref s4.heap.objs.size)) (EP X pins σ Q) X.xe { s4 with heap := s4.heap.push { cls := .type "slice", data := .fields #[.none, .none, vs] } }
  refine tail_any (ops := [.ref a, .ref s4.heap.objs.size]) ht.typeIs (PyProof.Rows.slot_tuple_getitem.lookup) ?_ (by with_unfolding_all rfl)
  refine HT.getItem_tuple_rev ht (Heap.IsSliceOf.new _ .none .none vs) ps ?_ (by rw [List.size_toArray]; omega)
  refine ⟨.ref _, _, I5.laid (t' := s4.toks) (o := .tup xs.reverse) (fun b ob q => Heap.get?_push_of_some _ q) (Nat.le_refl _) ?_, rfl, q _ (I5.hok.fresh (Nat.le_refl _))⟩
  exact ⟨by rw [List.length_reverse]; exact hz, _, r.reverse, IsTup.new _ _⟩
theorem vals_at : ∀ {xs : List V} {us : List Value}, xs.length = us.length → (∀ (i : Nat) x u, xs[i]? = some x → us[i]? = some u → RelV x u) → Vals xs us
  | [], [], _, _ => .nil
  | [], _ :: _, h, _ => by cases h
  | _ :: _, [], h, _ => by cases h
  | x :: xs, u :: us, h, k => .cons (k 0 x u rfl rfl) (vals_at (by simpa using h) fun i x u h1 h2 => k (i + 1) x u (by simpa using h1) (by simpa using h2))
/-- list(a text) -/
theorem call_list_txt {X : Cx} (hc : X.calm = true) : CallR X (.type "list") (fun xs H Q => ∃ z : Str, xs = [.str z] ∧ z.length ≤ 100000 ∧ ∀ l, H l = none → Q (.ref l) (upd H l (.lst (z.cps.toList.map fun k => V.str ⟨#[k]⟩)))) := by
  intro pins s σ H xs us Q I r h
  obtain ⟨z, rfl, hz, q⟩ := h
  obtain ⟨u, rfl, t, rfl⟩ := vals1 r
  have hsz := sizeLine_eq
  refine call_list_str (I.ok.hd hc) z t (fun h' tk acc c' kp e hi => ?_) (by
    have : z.cps.size = z.length := rfl
    rw [this, hsz]
    omega)
  refine ⟨.ref s.heap.objs.size, _, I.laid (t' := tk) kp (Nat.le_refl _) (show ObjOk X.prog X.w _ h' _ (.lst (z.cps.toList.map fun k => V.str ⟨#[k]⟩)) from ⟨?_, acc.toList, c', ?_, e⟩), rfl, q _ (I.hok.fresh (Nat.le_refl _))⟩
  · rw [List.length_map, Array.length_toList, hsz]
    have : z.cps.size = z.length := rfl
    omega
  · refine vals_at ?_ fun i x u h1 h2 => ?_
    · rw [List.length_map, Array.length_toList, Array.length_toList, hi.1]
    · rw [List.getElem?_map] at h1
      obtain ⟨k, hk, rfl⟩ := Option.map_eq_some_iff.mp h1
      obtain ⟨k2, t2, hk2, rfl⟩ := hi.2 i u (by simpa using h2)
      rw [Array.getElem?_toList] at hk
      rw [hk] at hk2
      cases hk2
      exact ⟨t2, rfl⟩
end L2

/-! text: Sim23 -/
set_option Elab.async false
set_option linter.all false
set_option maxRecDepth 100000
set_option maxHeartbeats 2000000
namespace Sm
open PySem PySem.Spec PyProof.Rows L2
theorem VCN.or {c : Cf} {r r' : List V → Hp → VK → Prop} {f f' : List D → Sto → Option (List D)} (h : VCN c r f) (h' : VCN c r' f') : VCN c (fun x H Q => r x H Q ∨ r' x H Q) (fun a S => match f a S with | some d => some d | none => f' a S) := by
  intro Ψ H S xs ds d Q s ra e q
  dsimp only at e
  cases z : f ds S with
  | some d' =>
    rw [z] at e
    cases e
    exact .inl (h Ψ H S xs ds _ Q s ra z q)
  | none =>
    rw [z] at e
    exact .inr (h' Ψ H S xs ds _ Q s ra e q)
def listT : List D → Sto → Option (List D) := fun ds _ => match ds with
  | [.str z] => if z.length ≤ 100000 then some (z.cps.toList.map fun k => D.str ⟨#[k]⟩) else none
  | _ => none
theorem vc_listT {c : Cf} : VCN c (fun xs H Q => ∃ z : Str, xs = [.str z] ∧ z.length ≤ 100000 ∧ ∀ l, H l = none → Q (.ref l) (upd H l (.lst (z.cps.toList.map fun k => V.str ⟨#[k]⟩)))) listT := by
  intro Ψ H S xs ds d Q s r e q
  unfold listT at e
  split at e
  · split at e
    · rename_i z hz
      cases e
      obtain ⟨v, rfl, r1⟩ := r.one
      cases r1.str
      refine ⟨z, rfl, hz, fun l hl => q l _ hl ?_ ?_⟩
      · rw [List.length_map, Array.length_toList]
        exact hz
      · have key : ∀ l : List Nat, Reps c Ψ (l.map fun k => V.str ⟨#[k]⟩) (l.map fun k => D.str ⟨#[k]⟩) := fun l => by
          induction l with
          | nil => exact .nil
          | cons k l ih => exact .cons (.str _) ih
        exact key _
    · cases e
  · cases e
def listA : List D → Sto → Option (List D) := fun a S => match listD a S with
  | some d => some d
  | none => listT a S
section
variable {c : Cf} {X : Cx} {W : L2.St → XK} {a b d e : Expr} {es : List Expr} {pos p p2 p3 : Pos} {ma mb mc : Env → M D} {ms : Env → M (List D)}
theorem sn_listA (ha : SAB c X W (e :: es) ms) (hm : X.mg "list" = none) (hc : X.calm = true := by rfl) (hg : Gl X "list" := by rfl)
    (he : starEach (e :: es) X.env = (false, eval e X.env) :: starEach es X.env := by rfl) (hpl : (backTo pos (starEach es X.env)).any (·.1) = false := by rfl) :
    SN c X W (.Call (.Name "list" p) (e :: es) [] pos) (fun ρ => c1N listA (ms ρ)) := sn_callTy (CallR.or call_list_of (call_list_txt hc)) (VCN.or (ha.k ▸ vc_list) vc_listT) ha hm boot_list hg (by decide) (by decide) he hpl
/-! chains -/
theorem se_ltLt (ha : SB c X W a ma) (hb : SB c X W b mb) (hd : SB c X W d mc) (h1 : lastMarks [.Lt, .Lt] [b, d] = false := by with_unfolding_all rfl) : SE c X W (.Compare a [.Lt, .Lt] [b, d] pos) (fun ρ => chainM ltI ltI (ma ρ) (mb ρ) (mc ρ)) := se_chain op_lt op_lt v2_ltI v2_ltI ha hb hd h1
theorem st_ltLt (ha : SB c X W a ma) (hb : SB c X W b mb) (hd : SB c X W d mc) (h1 : lastMarks [.Lt, .Lt] [b, d] = false := by with_unfolding_all rfl) : ST c X W (.Compare a [.Lt, .Lt] [b, d] pos) (fun ρ => boolT (chainM ltI ltI (ma ρ) (mb ρ) (mc ρ))) := st_chain op_lt op_lt v2_ltI v2_ltI ha hb hd h1
theorem se_geGt (ha : SB c X W a ma) (hb : SB c X W b mb) (hd : SB c X W d mc) (h1 : lastMarks [.GtE, .Gt] [b, d] = false := by with_unfolding_all rfl) : SE c X W (.Compare a [.GtE, .Gt] [b, d] pos) (fun ρ => chainM geI gtI (ma ρ) (mb ρ) (mc ρ)) := se_chain op_ge op_gt v2_geI v2_gtI ha hb hd h1
theorem st_geGt (ha : SB c X W a ma) (hb : SB c X W b mb) (hd : SB c X W d mc) (h1 : lastMarks [.GtE, .Gt] [b, d] = false := by with_unfolding_all rfl) : ST c X W (.Compare a [.GtE, .Gt] [b, d] pos) (fun ρ => boolT (chainM geI gtI (ma ρ) (mb ρ) (mc ρ))) := st_chain op_ge op_gt v2_geI v2_gtI ha hb hd h1
/-! is True -/
def isB (neg : Bool) : D → D → Sto → Option D := fun a b _ => match a, b with
  | .bl x, .bl y => some (.bl (if neg then !decide (x = y) else decide (x = y)))
  | _, _ => none
theorem v2_isB {c : Cf} : V2 c rIsB (isB false) := by
  intro Ψ H S x y a b d Q s ra rb e q
  unfold isB at e
  split at e
  · cases e
    cases ra.bl; cases rb.bl
    exact ⟨_, _, rfl, rfl, fin0 s q (.bl _)⟩
  · cases e
theorem v2_notB {c : Cf} : V2 c rNotB (isB true) := by
  intro Ψ H S x y a b d Q s ra rb e q
  unfold isB at e
  split at e
  · cases e
    cases ra.bl; cases rb.bl
    exact ⟨_, _, rfl, rfl, fin0 s q (.bl _)⟩
  · cases e
theorem se_isB (ha : SB c X W a ma) (hb : SB c X W b mb) (hm : behindInMarks .Is b = false := by first | exact nomark _ (by decide) (by decide) | rfl) : SE c X W (.Compare a [.Is] [b] pos) (fun ρ => o2 (isB false) (ma ρ) (mb ρ)) := se_cmp op_isBl v2_isB ha hb hm
theorem se_notB (ha : SB c X W a ma) (hb : SB c X W b mb) (hm : behindInMarks .IsNot b = false := by first | exact nomark _ (by decide) (by decide) | rfl) : SE c X W (.Compare a [.IsNot] [b] pos) (fun ρ => o2 (isB true) (ma ρ) (mb ρ)) := se_cmp op_notBl v2_notB ha hb hm
theorem st_isB (ha : SB c X W a ma) (hb : SB c X W b mb) (hm : behindInMarks .Is b = false := by first | exact nomark _ (by decide) (by decide) | rfl) : ST c X W (.Compare a [.Is] [b] pos) (fun ρ => boolT (o2 (isB false) (ma ρ) (mb ρ))) := st_cmp op_isBl v2_isB ha hb hm
theorem st_notB (ha : SB c X W a ma) (hb : SB c X W b mb) (hm : behindInMarks .IsNot b = false := by first | exact nomark _ (by decide) (by decide) | rfl) : ST c X W (.Compare a [.IsNot] [b] pos) (fun ρ => boolT (o2 (isB true) (ma ρ) (mb ρ))) := st_cmp op_notBl v2_notB ha hb hm
/-! a tuple turned about -/
def revT (d : D) : M D := fun S => match d with
  | .tup ds => .ok (.tup ds.reverse) S
  | _ => .stuck
theorem se_revT {k : Nat} {p1 p2 p3 : Pos} (ha : SB c X W a ma) : SE c X W (.Subscript a (.Slice none none (some (.UnaryOp .USub (.Constant (.int 1) k p1) p2)) p3) pos) (fun ρ => bd (ma ρ) revT) := by
  refine ⟨ha.k, PE.imp (pe_revT ha.p) fun σ H Q ⟨Ψ, ρ, S, F, so, eo, q⟩ => ⟨Ψ, ρ, S, F, so, eo, q.bd.mono fun d S1 q1 Ψ1 x H1 e1 so1 r1 => ?_⟩⟩
  unfold revT at q1
  split at q1
  · obtain ⟨a1, vs, rfl, h1, l, r⟩ := (r1.h (eo.ext e1)).tup so1
    exact ⟨a1, vs, rfl, by rw [ha.k]; exact h1, fun p hp => finT so1 (fun Ψ' v H' e2 so2 r2 => q1 Ψ' v H' (e1.trans e2) so2 r2) (by rw [List.length_reverse]; exact l) r.rev hp⟩
  · exact q1.elim
/-! a list turned about -/
def revL (d : D) : M (List D) := fun S => match d with
  | .lst ds => .ok ds.reverse S
  | _ => .stuck
theorem sn_revL {k : Nat} {p1 p2 p3 : Pos} (ha : SB c X W a ma) : SN c X W (.Subscript a (.Slice none none (some (.UnaryOp .USub (.Constant (.int 1) k p1) p2)) p3) pos) (fun ρ => bd (ma ρ) revL) := by
  refine ⟨ha.k, PE.imp (pe_revL ha.p) fun σ H Q ⟨Ψ, ρ, S, F, so, eo, q⟩ => ⟨Ψ, ρ, S, F, so, eo, q.bd.mono fun d S1 q1 Ψ1 x H1 e1 so1 r1 => ?_⟩⟩
  unfold revL at q1
  split at q1
  · obtain ⟨a1, vs, rfl, h1, l, r⟩ := (r1.h (eo.ext e1)).lst so1
    exact ⟨a1, vs, rfl, SqL.of h1, fun p hp => q1 Ψ1 p _ _ (e1.trans (Ext.lay hp)) (so1.lay hp) upd_same (by rw [List.length_reverse]; exact l) r.rev (so1.phiNone hp) (so1.footNone hp) (e1.dom p hp)⟩
  · exact q1.elim
/-! stars -/
def starM (d : D) : M (List D) := fun S => match d with
  | .tup ds => .ok ds S
  | .lst ds => .ok ds S
  | _ => .stuck
def appM (m n : M (List D)) : M (List D) := bd m fun xs => bd n fun ys => rt (xs ++ ys)
theorem sa_star {ms : Env → M (List D)} (h : SB c X W a ma) (t : SA c X W es ms) (hs : starEach (.Starred a p :: es) X.env = (true, eval a X.env) :: starEach es X.env := by rfl) :
    SA c X W (.Starred a p :: es) (fun ρ => appM (bd (ma ρ) starM) (ms ρ)) := by
  refine ⟨h.k, PA.imp (StX.pa_star h.p t.p hs) fun σ H Q ⟨Ψ, ρ, S, F, so, eo, q⟩ => ⟨Ψ, ρ, S, F, so, eo, q.bd.bd.mono fun d S1 q1 Ψ1 x H1 e1 so1 r1 => ?_⟩⟩
  unfold starM at q1
  have rh := r1.h (eo.ext e1)
  have fin : ∀ {xs : List V} {ds : List D}, Reps c Ψ1 xs ds → Post c (W σ) Ψ H (bd (ms ρ) (fun ys => rt (ds ++ ys)) S1) (fun ds S' => ∀ Ψ' vs H', Ext Ψ H Ψ' H' → StoOk c Ψ' H' S' → Reps c Ψ' vs ds → Q vs H') → rA c W ms σ H1 (fun ys H2 => Q (xs ++ ys) H2) := fun {xs ds} rx qq =>
    ⟨Ψ1, ρ, S1, F, so1, eo.ext e1, (Post.ext e1 qq).bd.mono fun ys S2 q2 Ψ2 zs H2 e2 so2 r2 => q2 Ψ2 _ H2 (e1.trans e2) so2 ((rx.mono e2.le).app r2)⟩
  split at q1
  · obtain ⟨a1, vs, rfl, h1, l, r⟩ := rh.tup so1
    exact ⟨a1, vs, rfl, .inl (by rw [h.k]; exact h1), fin r q1⟩
  · obtain ⟨a1, vs, rfl, h1, l, r⟩ := rh.lst so1
    exact ⟨a1, vs, rfl, .inr (SqL.of h1), fin r q1⟩
  · exact q1.elim
end
end Sm

/-! text: Sim24 -/
set_option Elab.async false
set_option linter.all false
set_option maxRecDepth 100000
set_option maxHeartbeats 4000000
namespace Sm
open PySem PySem.Spec PyProof.Rows L2
/-! ### comprehensions with two fors -/
def lc2M (bnd : D → Option Env) (t : Env → M Bool) (it : Env → M (List D)) (bnd1 : Env → D → Option Env) (t1 : Env → M Bool) (e : Env → M D) : List D → M (List D)
  | [] => rt []
  | d :: ds => match bnd d with
    | none => stk
    | some ρ => bd (t ρ) fun b => iteM b (bd (it ρ) fun xs => bd (lcM (bnd1 ρ) t1 e xs) fun ys => bd (lc2M bnd t it bnd1 t1 e ds) fun zs => rt (ys ++ zs)) (lc2M bnd t it bnd1 t1 e ds)
def fitM (m : M (List D)) : M (List D) := bd m fun ys => fun S => if ys.length ≤ 100000 then .ok ys S else .stuck
def few (ds : List D) (m : M (List D)) : M (List D) := fun S => if ds.length ≤ 100 then m S else .stuck
theorem EnvOk.updF {c : Cf} {Ψ : Wd} {σ : L2.St} {ρ : Env} {H : Hp} {F : Nat → List Addr} {a : Addr} {o : HO} (e : EnvOk c Ψ σ ρ H F) (h : ∀ i, a ∉ F i) : EnvOk c Ψ σ ρ (upd H a o) F := by
  refine ⟨e.len, fun i s hs => (e.slot i s hs).keep (Le.refl _) fun b hb u hu => ?_, e.out, fun i b hb => ?_, e.sep⟩
  · have ne : b ≠ a := fun z => h i (by rw [← z]; exact hb)
    rw [upd_ne ne]; exact hu
  · obtain ⟨p1, p2, p3⟩ := e.priv i b hb
    have ne : b ≠ a := fun z => h i (by rw [← z]; exact hb)
    exact ⟨p1, p2, by rw [upd_ne ne]; exact p3⟩
theorem len2_lt {n i j a b : Nat} (hn : n ≤ i * 100000 + j) (hi : i < a) (ha : a ≤ 100) (hj : j < b) (hb : b ≤ 100000) : n < sizeLine := by
  have : n < 10000000 := by omega
  exact Nat.lt_of_lt_of_le this (by decide)
theorem ok0_bd {α β : Type} {m : M α} {f : α → M β} {S : Sto} {R : β → Sto → Prop} (h : Ok0 (m S) fun a S1 => Ok0 (f a S1) R) : Ok0 (bd m f S) R := by
  unfold Sm.bd
  cases e : m S with
  | ok a S1 => rw [e] at h; exact h
  | err k fs S1 => rw [e] at h; exact h.elim
  | stuck => rw [e] at h; exact h.elim
section
variable {c : Cf} {X : Cx} {W : L2.St → XK} {mi mi1 : Env → M (List D)} {mt mt1 : Env → M Bool} {me : Env → M D} {t tg1 : Tg} {vs vs1 : List Nat}
/-- the list that grows; m is what is to come -/
structure Grow2 (c : Cf) (Ψ1 : Wd) (H1 : Hp) (D0 : Addr) (R : List D → Sto → Prop) (m : M (List D)) (n : Nat) (H2 : Hp) : Prop where
  ex : ∃ Ψ2 S2 acc accV, Ext Ψ1 H1 Ψ2 H2 ∧ StoOk c Ψ2 H2 S2 ∧ H2 D0 = some (.lst accV) ∧ Reps c Ψ2 accV acc ∧ accV.length ≤ n ∧ Ψ2.fz D0 = none ∧ ¬ Foot Ψ2 D0 ∧ Ok0 (m S2) fun ys S' => R (acc ++ ys) S'
structure Grow3 (c : Cf) (Ψ1 : Wd) (H1 : Hp) (D0 : Addr) (R : List D → Sto → Prop) (m : M (List D)) (n : Nat) (Ψ5 : Wd) (σ : L2.St) (ρ : Env) (F : Nat → List Addr) (H2 : Hp) : Prop where
  ex : ∃ Ψ2 S2 acc accV, Ext Ψ1 H1 Ψ2 H2 ∧ Le Ψ5 Ψ2 ∧ EnvOk c Ψ2 σ ρ H2 F ∧ StoOk c Ψ2 H2 S2 ∧ H2 D0 = some (.lst accV) ∧ Reps c Ψ2 accV acc ∧ accV.length ≤ n ∧ Ψ2.fz D0 = none ∧ ¬ Foot Ψ2 D0 ∧ Ok0 (m S2) fun ys S' => R (acc ++ ys) S'
theorem lc2_in {W1 : L2.St → XK} (hv1 : ∀ i ∈ tg1.is, i ∈ vs1) {Ψ1 : Wd} {H1 : Hp} {D0 : Addr} {R : List D → Sto → Prop} {M2 : M (List D)} {i a : Nat} {Ψ5 : Wd} {σ : L2.St} {ρ : Env} {F : Nat → List Addr} {H5 : Hp} {J1 : It} {xs : List D} {Nx : Hp → Prop}
    (hi : i < a) (ha : a ≤ 100) (hD : H1 D0 = none) (hF : ∀ i, D0 ∉ F i) (it : ItOk c (fun Ψ2 _ => Le Ψ5 Ψ2) J1 xs)
    (g0 : Grow3 c Ψ1 H1 D0 R (bd (lcM (fun d => bindD tg1 d (wipeE ρ vs1)) mt1 me xs) fun ys => bd M2 fun zs => rt (ys ++ zs)) (i * 100000) Ψ5 σ ρ F H5) (hN : ∀ H, Grow2 c Ψ1 H1 D0 R M2 ((i + 1) * 100000) H → Nx H) :
    ∃ W2 : Nat → Nat → Hp → Prop, (∃ m, W2 0 m H5) ∧ ∀ j k H, W2 j k H →
        (J1.stop j H ∧ Nx H) ∨ (J1.go j H ∧ ∃ Nx1 : Hp → Prop, (∀ H', Nx1 H' → ∃ k', k' < k ∧ W2 (j + 1) k' H') ∧ ∀ x H', J1.yld j H x H' → gTg c.K tg1 x (wipe σ vs1) H' fun σ3 H5 => wipe σ3 vs1 = wipe σ vs1 ∧ rT c WF mt1 σ3 H5 fun b H6 =>
          if b = true then rE c WF me σ3 H6 fun y H7 => ∃ acc, H7 D0 = some (.lst acc) ∧ acc.length < sizeLine ∧ Nx1 (upd H7 D0 (.lst (acc ++ [y]))) else Nx1 H6) := by
  obtain ⟨hl1, G1, Y1, wk1, hG1, hY1⟩ := it
  have hl1' : xs.length ≤ 100000 := hl1
  refine it_gen (H0 := H5) (Qd := Nx) (B := fun x H' Nx1 => gTg c.K tg1 x (wipe σ vs1) H' fun σ3 H5 => wipe σ3 vs1 = wipe σ vs1 ∧ rT c WF mt1 σ3 H5 fun b H6 =>
      if b = true then rE c WF me σ3 H6 fun y H7 => ∃ acc, H7 D0 = some (.lst acc) ∧ acc.length < sizeLine ∧ Nx1 (upd H7 D0 (.lst (acc ++ [y]))) else Nx1 H6)
    wk1 (fun j H6 => Grow3 c Ψ1 H1 D0 R (bd (lcM (fun d => bindD tg1 d (wipeE ρ vs1)) mt1 me (xs.drop j)) fun ys => bd M2 fun zs => rt (ys ++ zs)) (i * 100000 + j) Ψ5 σ ρ F H6) ?_ ?_ ?_ ?_
  · rw [Nat.add_zero, List.drop_zero]
    exact g0
  · rintro j H6 hj ⟨Ψ6, S6, acc, accV, x6, le6, eo6, s6, _⟩
    exact hG1 Ψ6 S6 H6 le6 s6
  · rintro j x H6 H7 hj ⟨Ψ6, S6, acc, accV, x6, le6, eo6, s6, h6, r6, l6, p6, f6, k6⟩ y
    have hd : xs[j]? = some xs[j] := List.getElem?_eq_getElem hj
    obtain ⟨Ψ7, x7, s7, r7⟩ := hY1 j H6 x H7 Ψ6 S6 _ le6 s6 hd y
    have e17 := x6.trans x7
    rw [List.drop_eq_getElem_cons hj] at k6
    have k6' := k6.bd
    unfold lcM at k6'
    obtain ⟨F7, eo7, sub7⟩ := (eo6.ext x7).wipes vs1
    cases hb : bindD tg1 xs[j] (wipeE ρ vs1) with
    | none => rw [hb] at k6'; exact k6'.elim
    | some ρ' =>
      rw [hb] at k6'
      have k7 : Ok0 (bd (mt1 ρ') (fun b => iteM b (bd (me ρ') fun y => bd (lcM (fun d => bindD tg1 d (wipeE ρ vs1)) mt1 me (xs.drop (j + 1))) fun ys => rt (y :: ys)) (lcM (fun d => bindD tg1 d (wipeE ρ vs1)) mt1 me (xs.drop (j + 1)))) S6) _ := k6'
      refine bind_ok s7 eo7 r7 hb fun σ' F'' eo8 _ hw _ => ?_
      refine ⟨(hw vs1 hv1).trans (wipe_wipe fun _ h => h), Ψ7, ρ', S6, F'', s7, eo8, (k7.bd.post).mono fun b S8 q8 Ψ8 H8 x8 s8 => ?_⟩
      have hD7 : H7 D0 = some (.lst accV) := x7.keep _ _ h6 f6
      have fr7 := x7.free p6 f6 (by rw [h6]; exact fun z => nomatch z)
      have hD8 : H8 D0 = some (.lst accV) := x8.keep _ _ hD7 fr7.2
      have fr8 := x8.free fr7.1 fr7.2 (by rw [hD7]; exact fun z => nomatch z)
      have e18 := e17.trans x8
      cases b with
      | false =>
        show if false = true then _ else _
        rw [if_neg Bool.false_ne_true]
        have q8' : Ok0 (lcM (fun d => bindD tg1 d (wipeE ρ vs1)) mt1 me (xs.drop (j + 1)) S8) _ := q8
        refine ⟨Ψ8, S8, acc, accV, e18, le6.trans (x7.le.trans x8.le), eo6.ext (x7.trans x8), s8, hD8, r6.mono (x7.le.trans x8.le), Nat.le_succ_of_le l6, fr8.1, fr8.2, ?_⟩
        show Ok0 (Sm.bd _ _ S8) _
        exact ok0_bd q8'
      | true =>
        show if true = true then _ else _
        rw [if_pos rfl]
        have q9 : Ok0 (bd (me ρ') (fun y => bd (lcM (fun d => bindD tg1 d (wipeE ρ vs1)) mt1 me (xs.drop (j + 1))) fun ys => rt (y :: ys)) S8) _ := q8
        refine ⟨Ψ8, ρ', S8, F'', s8, eo8.ext x8, (q9.bd.post).mono fun dy S9 q10 Ψ9 y9 H9 x9 s9 r9 => ?_⟩
        have hD9 : H9 D0 = some (.lst accV) := x9.keep _ _ hD8 fr8.2
        have fr9 := x9.free fr8.1 fr8.2 (by rw [hD8]; exact fun z => nomatch z)
        have e19 := e18.trans x9
        refine ⟨accV, hD9, len2_lt l6 hi ha hj hl1', Ψ9, S9, acc ++ [dy], accV ++ [y9], e19.upd hD, le6.trans ((x7.le.trans x8.le).trans x9.le), (eo6.ext ((x7.trans x8).trans x9)).updF hF, s9.updF fr9.1 fr9.2, upd_same, (r6.mono ((x7.le.trans x8.le).trans x9.le)).app (.cons r9 .nil), by rw [List.length_append]; exact Nat.succ_le_succ l6, fr9.1, fr9.2, ?_⟩
        refine ok0_bd (q10.bd.mono fun ys S11 q11 => ?_)
        have q12 : Ok0 (bd M2 (fun zs => rt (dy :: ys ++ zs)) S11) _ := q11
        refine ok0_bd (q12.bd.mono fun zs S13 q13 => ?_)
        show R (acc ++ [dy] ++ (ys ++ zs)) S13
        rw [List.append_assoc]
        exact q13
  · rintro H6 ⟨Ψ6, S6, acc, accV, x6, le6, eo6, s6, h6, r6, l6, p6, f6, k6⟩
    rw [List.drop_eq_nil_of_le (Nat.le_refl _)] at k6
    have k7 : Ok0 (bd M2 (fun zs => rt ([] ++ zs)) S6) _ := k6.bd
    refine hN H6 ⟨Ψ6, S6, acc, accV, x6, s6, h6, r6, by omega, p6, f6, k7.bd⟩
theorem lc2_r (hv : ∀ i ∈ t.is, i ∈ vs) (hv1 : ∀ i ∈ tg1.is, i ∈ vs1) {σ : L2.St} {H : Hp} {Q : VK}
    (h : rN c W (fun ρ => bd (mi ρ) fun ds => noX (few ds (fitM (lc2M (fun d => bindD t d (wipeE ρ vs)) mt mi1 (fun ρ d => bindD tg1 d (wipeE ρ vs1)) mt1 me ds)))) σ H Q) :
    tLc2 (rIC c W mi) (gTg c.K t) (rT c WF mt) (rI c WF mi1) (gTg c.K tg1) (rT c WF mt1) (rE c WF me) vs vs1 σ H Q := by
  obtain ⟨Ψ, ρ, S, F, so, eo, q⟩ := h
  refine ⟨Ψ, ρ, S, F, so, eo, q.bd.mono fun ds S1 q1 Ψ1 J H1 e1 so1 it => ?_⟩
  intro D0 hD
  obtain ⟨hl, G, Y, wk, hG, hY⟩ := it
  have q2' : Ok0 (few ds (fitM (lc2M (fun d => bindD t d (wipeE ρ vs)) mt mi1 (fun ρ d => bindD tg1 d (wipeE ρ vs1)) mt1 me ds)) S1) (RN c Ψ H Q) := Post.ok0 q1
  unfold few at q2'
  split at q2'
  case isFalse => exact q2'.elim
  rename_i hfew
  have q3 := Ok0.bd q2'
  obtain ⟨F', eo', sub⟩ := eo.wipes vs
  have hHD : H D0 = none := e1.dom D0 hD
  refine it_gen (H0 := upd H1 D0 (.lst [])) (B := fun x H' Nx => gTg c.K t x (wipe σ vs) H' fun σ2 H2 => wipe σ2 vs = wipe σ vs ∧ rT c WF mt σ2 H2 fun b H3 =>
      if b = true then rI c WF mi1 σ2 H3 fun J1 H4 => ∃ W1 : Nat → Nat → Hp → Prop, (∃ m, W1 0 m H4) ∧ ∀ j k H, W1 j k H →
        (J1.stop j H ∧ Nx H) ∨ (J1.go j H ∧ ∃ Nx1 : Hp → Prop, (∀ H', Nx1 H' → ∃ k', k' < k ∧ W1 (j + 1) k' H') ∧ ∀ x H', J1.yld j H x H' → gTg c.K tg1 x (wipe σ2 vs1) H' fun σ3 H5 => wipe σ3 vs1 = wipe σ2 vs1 ∧ rT c WF mt1 σ3 H5 fun b H6 =>
          if b = true then rE c WF me σ3 H6 fun y H7 => ∃ acc, H7 D0 = some (.lst acc) ∧ acc.length < sizeLine ∧ Nx1 (upd H7 D0 (.lst (acc ++ [y]))) else Nx1 H6)
      else Nx H3)
    wk (fun i H2 => Grow2 c Ψ1 H1 D0 (fun ys S' => Ok0 ((fun S => if ys.length ≤ 100000 then Res.ok ys S else Res.stuck) S') (RN c Ψ H Q)) (lc2M (fun d => bindD t d (wipeE ρ vs)) mt mi1 (fun ρ d => bindD tg1 d (wipeE ρ vs1)) mt1 me (ds.drop i)) (i * 100000) H2) ?_ ?_ ?_ ?_
  · exact ⟨Ψ1, S1, [], [], Ext.lay hD, so1.lay hD, upd_same, .nil, Nat.zero_le _, so1.phiNone hD, so1.footNone hD, q3⟩
  · rintro i H2 hi ⟨Ψ2, S2, acc, accV, x2, s2, _⟩
    exact hG Ψ2 S2 H2 x2 s2
  · rintro i x H2 H3 hi ⟨Ψ2, S2, acc, accV, x2, s2, h2, r2, l2, p2, f2, k2⟩ y
    have hd : ds[i]? = some ds[i] := List.getElem?_eq_getElem hi
    obtain ⟨Ψ3, x3, s3, r3⟩ := hY i H2 x H3 Ψ2 S2 _ x2 s2 hd y
    have e13 := x2.trans x3
    rw [List.drop_eq_getElem_cons hi] at k2
    unfold lc2M at k2
    cases hb : bindD t ds[i] (wipeE ρ vs) with
    | none => rw [hb] at k2; exact k2.elim
    | some ρ' =>
      rw [hb] at k2
      have k3 : Ok0 (bd (mt ρ') (fun b => iteM b (bd (mi1 ρ') fun xs => bd (lcM (fun d => bindD tg1 d (wipeE ρ' vs1)) mt1 me xs) fun ys => bd (lc2M (fun d => bindD t d (wipeE ρ vs)) mt mi1 (fun ρ d => bindD tg1 d (wipeE ρ vs1)) mt1 me (ds.drop (i + 1))) fun zs => rt (ys ++ zs)) (lc2M (fun d => bindD t d (wipeE ρ vs)) mt mi1 (fun ρ d => bindD tg1 d (wipeE ρ vs1)) mt1 me (ds.drop (i + 1)))) S2) _ := k2
      refine bind_ok s3 (eo'.ext (e1.trans e13)) r3 hb fun σ' F'' eo3 sub3 hw _ => ?_
      refine ⟨(hw vs hv).trans (wipe_wipe fun _ h => h), Ψ3, ρ', S2, F'', s3, eo3, (k3.bd.post).mono fun b S4 q4 Ψ4 H4 x4 s4 => ?_⟩
      have hD3 : H3 D0 = some (.lst accV) := x3.keep _ _ h2 f2
      have fr3 := x3.free p2 f2 (by rw [h2]; exact fun z => nomatch z)
      have hD4 : H4 D0 = some (.lst accV) := x4.keep _ _ hD3 fr3.2
      have fr4 := x4.free fr3.1 fr3.2 (by rw [hD3]; exact fun z => nomatch z)
      have e14 := e13.trans x4
      cases b with
      | false =>
        show if false = true then _ else _
        rw [if_neg Bool.false_ne_true]
        exact ⟨Ψ4, S4, acc, accV, e14, s4, hD4, r2.mono (x3.le.trans x4.le), Nat.le_trans l2 (Nat.mul_le_mul_right _ (Nat.le_succ i)), fr4.1, fr4.2, q4⟩
      | true =>
        show if true = true then _ else _
        rw [if_pos rfl]
        have q5 : Ok0 (bd (mi1 ρ') (fun xs => bd (lcM (fun d => bindD tg1 d (wipeE ρ' vs1)) mt1 me xs) fun ys => bd (lc2M (fun d => bindD t d (wipeE ρ vs)) mt mi1 (fun ρ d => bindD tg1 d (wipeE ρ vs1)) mt1 me (ds.drop (i + 1))) fun zs => rt (ys ++ zs)) S4) _ := q4
        have eo4 := eo3.ext x4
        refine ⟨Ψ4, ρ', S4, F'', s4, eo4, (q5.bd.post).mono fun xs S5 q6 Ψ5 J1 H5 x5 s5 it1 => ?_⟩
        have hD5 : H5 D0 = some (.lst accV) := x5.keep _ _ hD4 fr4.2
        have fr5 := x5.free fr4.1 fr4.2 (by rw [hD4]; exact fun z => nomatch z)
        have e15 := e14.trans x5
        have eo5 := eo4.ext x5
        refine lc2_in (W1 := W) (ρ := ρ') (F := F'') (i := i) (a := ds.length) hv1 hi hfew hD (fun k z => (eo.priv k D0 (sub _ _ (sub3 _ _ z))).2.2 hHD) it1 ?_ (fun H g => g)
        exact ⟨Ψ5, S5, acc, accV, e15, Le.refl _, eo5, s5, hD5, r2.mono ((x3.le.trans x4.le).trans x5.le), l2, fr5.1, fr5.2, q6⟩
  · rintro H2 ⟨Ψ2, S2, acc, accV, x2, s2, h2, r2, l2, p2, f2, k2⟩
    rw [List.drop_eq_nil_of_le (Nat.le_refl _)] at k2
    have k3 : Ok0 ((fun S => if (acc ++ []).length ≤ 100000 then Res.ok (acc ++ []) S else Res.stuck) S2) (RN c Ψ H Q) := k2
    rw [List.append_nil] at k3
    dsimp only at k3
    split at k3
    · rename_i hfit
      exact k3 Ψ2 D0 accV H2 (e1.trans x2) s2 h2 (by rw [r2.length]; exact hfit) r2 p2 f2 (e1.dom D0 hD)
    · exact k3.elim
end
section
variable {c : Cf} {X : Cx} {W : L2.St → XK} {mi mi1 : Env → M (List D)} {mt mt1 : Env → M Bool} {me : Env → M D} {t t1 : Tg} {elt tg iter tg1 iter1 : Expr} {ifs ifs1 : List Expr} {scope : Scope} {own : List (Str × Nat)} {vs1 : List Nat} {pos : Pos}
theorem sn_lc2 (hi : SIC c X W tg iter mi) (hN : X.N.Nodup) (ok : BlkOk X.N X.env.scope scope own) (hv : ∀ i ∈ t.is, i ∈ own.map (·.2)) (hv1 : ∀ i ∈ t1.is, i ∈ vs1) (hvv : ∀ i ∈ vs1, i ∈ own.map (·.2))
    (hg : ∀ (s : Shared) (H : Hp) (C : Addr) (cl : List (Str × Addr)) (fp : List Addr), SG (X.blk s H scope (compEnvC scope cl C X.env) fp) tg t) (ht : ∀ (s : Shared) (H : Hp) (C : Addr) (cl : List (Str × Addr)) (fp : List Addr), STs c (X.blk s H scope (compEnvC scope cl C X.env) fp) WF ifs mt)
    (hi1 : ∀ (s : Shared) (H : Hp) (C : Addr) (cl : List (Str × Addr)) (fp : List Addr), SI c (X.blk s H scope (compEnvC scope cl C X.env) fp) WF tg1 iter1 mi1)
    (hg1 : ∀ (s : Shared) (H : Hp) (C : Addr) (cl : List (Str × Addr)) (fp : List Addr), SG (X.blk s H scope (compEnvC scope cl C X.env) fp) tg1 t1) (ht1 : ∀ (s : Shared) (H : Hp) (C : Addr) (cl : List (Str × Addr)) (fp : List Addr), STs c (X.blk s H scope (compEnvC scope cl C X.env) fp) WF ifs1 mt1)
    (he : ∀ (s : Shared) (H : Hp) (C : Addr) (cl : List (Str × Addr)) (fp : List Addr), SE c (X.blk s H scope (compEnvC scope cl C X.env) fp) WF elt me) (hc : X.calm = true := by rfl) (hs : ∀ x, foldedSetIterable iter X.env x = pure x := by intro _; rfl) (hs1 : ∀ env x, foldedSetIterable iter1 env x = pure x := by intro _ _; rfl) :
    SN c X W (.ListComp elt [⟨tg, iter, ifs, 0⟩, ⟨tg1, iter1, ifs1, 0⟩] scope pos) (fun ρ => bd (mi ρ) fun ds => noX (few ds (fitM (lc2M (fun d => bindD t d (wipeE ρ (own.map (·.2)))) mt mi1 (fun ρ d => bindD t1 d (wipeE ρ vs1)) mt1 me ds)))) :=
  ⟨hi.k, PE.imp (pe_lc2 hc hN hi.p ok hvv (fun s H C cl fp => hi.k ▸ (hg s H C cl fp).p) (fun s H C cl fp => (ht s H C cl fp).p) (fun s H C cl fp => (hi1 s H C cl fp).p) (fun s H C cl fp => hi.k ▸ (hg1 s H C cl fp).p) (fun s H C cl fp => (ht1 s H C cl fp).p) (fun s H C cl fp => (he s H C cl fp).p) hs hs1) fun σ H Q h => lc2_r hv hv1 h⟩
end
end Sm

/-! text: Sim25 -/
set_option Elab.async false
set_option linter.all false
set_option maxRecDepth 100000
set_option maxHeartbeats 2000000
namespace Sm
open PySem PySem.Spec PyProof.Rows L2
/-! list(range(a, b)) -/
def listRg2M (m n : M D) : M (List D) := bd m fun x => bd n fun y => fun S => match x, y with
  | .int i, .int j => if 0 ≤ i ∧ i ≤ 100000 ∧ 0 ≤ j ∧ j ≤ 100000 then .ok (rng i (j - i).toNat) S else .stuck
  | _, _ => .stuck
section
variable {c : Cf} {X : Cx} {WW : L2.St → XK} {a b : Expr} {pos p2 p3 cpos : Pos} {ma mb : Env → M D}
theorem sn_listRg2 (ha : SE c X WW a ma) (hb : SE c X WW b mb) (hml : X.mg "list" = none) (hmr : X.mg "range" = none) (hgl : Gl X "list" := by rfl) (hgr : Gl X "range" := by rfl) (hc : X.calm = true := by rfl)
    (na : starEach [.Call (.Name "range" p3) [a, b] [] p2] X.env = (false, eval (.Call (.Name "range" p3) [a, b] [] p2) X.env) :: starEach [] X.env := by rfl) (nb : starEach [a, b] X.env = (false, eval a X.env) :: starEach [b] X.env := by rfl)
    (nc : starEach [b] X.env = (false, eval b X.env) :: starEach [] X.env := by rfl) (hp : (backTo p2 (starEach [b] X.env)).any (·.1) = false := by rfl) :
    SN c X WW (.Call (.Name "list" pos) [.Call (.Name "range" p3) [a, b] [] p2] [] cpos) (fun ρ => listRg2M (ma ρ) (mb ρ)) := by
  refine ⟨ha.k, PE.imp (pe_listRg hc hgl hml (prg_2 hgr hmr ha.p hb.p nb nc hp) na) fun σ H Q ⟨Ψ, ρ, S, F, so, eo, q⟩ => ⟨Ψ, ρ, S, F, so, eo, q.bd.mono fun x S1 q1 Ψ1 v H1 x1 s1 r1 => ?_⟩⟩
  refine ⟨Ψ1, ρ, S1, F, s1, eo.ext x1, (q1.ext x1).bd.mono fun y S2 q2 Ψ2 u H2 x2 s2 r2 => ?_⟩
  split at q2
  · split at q2
    · rename_i ii jj hj
      cases r1
      cases r2
      refine ⟨ii, jj, rfl, rfl, RgOk.of_le (by omega) (by omega) (by omega) (by omega), fun t ht => ?_⟩
      have hlen : (rgV ii jj).length ≤ LIM := by
        rw [rgV_length]
        show _ ≤ 100000
        omega
      have x12 := x1.trans x2
      refine q2 Ψ2 t _ _ (x12.trans (Ext.lay ht)) (s2.lay ht) upd_same hlen ?_ (s2.phiNone ht) (s2.footNone ht) (x12.dom _ ht)
      unfold rgV rng
      have key : ∀ l : List Nat, Reps c Ψ2 (l.map fun (i : Nat) => V.int (ii + (i : Nat))) (l.map fun (i : Nat) => D.int (ii + (i : Nat))) := fun l => by
        induction l with
        | nil => exact .nil
        | cons i l ih => exact .cons (.int _) ih
      exact key _
    · exact q2.elim
  · exact q2.elim
end
/-! which method it is hangs on the receiver's class -/
def isK (k : Nat) (d : D) : Bool := match d with
  | .ins j _ => decide (j = k)
  | _ => false
theorem se_byv {c : Cf} {X : Cx} {W : L2.St → XK} {e : Expr} {m0 : Env → M D} {A B : Env → D → M D} (p : D → Bool) (hA : SE c X W e (fun ρ => bd (m0 ρ) (A ρ))) (hB : SE c X W e (fun ρ => bd (m0 ρ) (B ρ))) :
    SE c X W e (fun ρ => bd (m0 ρ) fun d => bif p d then A ρ d else B ρ d) := by
  refine ⟨hA.k, ⟨fun pins s σ H Q I ⟨Ψ, ρ, S, F, so, eo, q⟩ => ?_⟩⟩
  have key : (bd (m0 ρ) (fun d => bif p d then A ρ d else B ρ d) S = bd (m0 ρ) (A ρ) S) ∨ (bd (m0 ρ) (fun d => bif p d then A ρ d else B ρ d) S = bd (m0 ρ) (B ρ) S) := by
    unfold bd
    cases m0 ρ S with
    | ok d S1 =>
      cases h : p d with
      | true => exact .inl (by simp only [h, cond_true])
      | false => exact .inr (by simp only [h, cond_false])
    | err k fs S1 => exact .inl rfl
    | stuck => exact .inl rfl
  rcases key with h | h
  · exact hA.p.run pins s σ H Q I ⟨Ψ, ρ, S, F, so, eo, by dsimp only at q ⊢; rw [← h]; exact q⟩
  · exact hB.p.run pins s σ H Q I ⟨Ψ, ρ, S, F, so, eo, by dsimp only at q ⊢; rw [← h]; exact q⟩
/-! a, b = x, y where a name is a cell: the tuple is made -/
theorem ss_parC {c : Cf} {X : Cx} {W : XK} {ma : Env → M (List Slot)} {es : List Expr} {tg : Expr} {is : List Nat} {kx} {p pos : Pos} (ha : SAM c X (cW W) es ma) (ht : SG X tg (.tup is)) (hl : is.length ≤ 100000 := by decide)
    (hs : swapsWithSole [tg] (.Tuple es kx p) pos.line X.env = pure false := by rfl) (hw : swappedStores [tg] (.Tuple es kx p) X.env = pure none := by rfl)
    (h1 : (assignEach [tg] X.env).map (·.2) = [assign tg X.env] := by rfl) : SS c X W (.Assign [tg] (.Tuple es kx p) pos) (parS is is.length ma) := by
  refine ⟨ha.k, PS.imp (ps_asg (pe_tup ha.p) ht.p hs hw h1) fun D σ H ⟨B, Ψ, ρ, S, F, g, q⟩ => ⟨Ψ, ρ, S, F, g.so, g.eo, (q.bd.ext g.x).mono fun ss S1 q1 Ψ1 vs As H1 x1 s1 r1 => ?_⟩⟩
  split at q1
  · rename_i h2
    obtain ⟨F', g'⟩ := Gd.setsM (is := is) (fun b hb => g.x.dom b hb) r1 (g.ext x1 s1) fun b hb k hk => (g.eo.priv k b hk).2.2 (r1.mem b hb).1
    have hlen : vs.length = is.length := by rw [r1.len, h2]
    refine ⟨lim_of (by rw [hlen]; exact hl), fun p hp => ?_⟩
    refine ⟨p, vs, rfl, SqT.of upd_same, hlen, ?_⟩
    exact q1 Ψ1 _ _ F' (g'.ext (Ext.lay hp) (s1.lay hp))
  · exact q1.elim
end Sm

/-! text: Sim26 -/
set_option Elab.async false
set_option linter.all false
set_option maxRecDepth 100000
set_option maxHeartbeats 2000000
namespace Sm
open PySem PySem.Spec PyProof.Rows L2
/-! len(o) of an instance whose class has __len__ -/
def rLenOwn (C : Addr) (sp : Sp) (E : XK) : List V → Hp → VK → Prop := fun xs H Q => ∃ a dx vs, xs = [V.ref a] ∧ SlX.Slt H a C dx vs ∧ sp [.ref a] H (fun z H' => ∃ i : Int, z = .int i ∧ (0 ≤ i ∧ i < 2 ^ 63) ∧ Q z H') E
theorem call_lenOwn {X : Cx} {CX : CXT} {C g : Addr} {n : Nat} {sp : Sp} {E : XK} (hs : PySem.W.findIn X.K (.ref C) "__len__" = some (some (.ref g))) (hf : PySem.W.isFn X.K (.ref g) = true) (F : FnR X.prog X.w X.K X.mg X.base CX n g sp) (hr : Room (n + 1) X.A) (hx : Passes CX X E) : CallR X (.builtin "len") (rLenOwn C sp E) := by
  intro pins s σ H xs us Q I r h
  obtain ⟨a, dx, vs, rfl, hsl, q⟩ := h
  obtain ⟨u, rfl, ru⟩ := r.one
  cases (show u = Value.ref a from ru)
  obtain ⟨sl, od, _, J, _⟩ := SlX.slt_inst I hsl
  obtain ⟨m, hF⟩ := I.fr
  refine PySem.W.len_K hF I.ok.mod.kin J hs hf (wpAny_mono (wpAny_call (SlX.run_at (us := [.ref a]) (ws := [.ref a]) F hr.in1 I.env0.in1 hx I (.cons rfl .nil) q)) (fun w s' z => ?_) fun _ _ x => x)
  obtain ⟨z', H', I', rz, i, ei, hi, qz⟩ := z
  subst ei
  obtain ⟨t, e⟩ := (show ∃ t, w = Value.int i t from rz)
  cases e
  exact ⟨hi, .int i, H', I'.tok _, ⟨_, rfl⟩, qz⟩
def lenI (d : D) : M D := fun S => match d with
  | .int i => if 0 ≤ i ∧ i < 100 then .ok (.int i) S else .stuck
  | _ => .stuck
theorem se_lenO {c : Cf} {X : Cx} {W : L2.St → XK} {a : Expr} {me : Env → M D} {g : Addr} {n k : Nat} {m : List D → M D} {p pos : Pos} (h : SE c X W a me) (hm : X.mg "len" = none) (C : SlX.SCls c.K (c.cls k)) (t : Meth c.K (c.cls k) "__len__" g) (G : Fn c X.prog X.w X.mg X.base n g 1 m) (hr : Room (n + 1) X.A)
    (hg : Gl X "len" := by rfl) (he : starEach [a] X.env = (false, eval a X.env) :: starEach [] X.env := by rfl) :
    SE c X W (.Call (.Name "len" p) [a] [] pos) (fun ρ => bd (me ρ) fun d => bd (insM k d) fun d => bd (noX (callM 1 m [d])) lenI) := by
  have G' : FnR X.prog X.w X.K X.mg X.base (L2.CX X.prog X.w) n g (PromF c 1 m) := by rw [h.k]; exact G.r
  refine ⟨h.k, PE.imp (pe_callB (call_lenOwn (C := c.cls k) (E := E0) (by rw [h.k]; exact t.at_) (by rw [h.k]; exact t.fn) G' hr (fun pins σ H s er s' I z => by
    obtain ⟨_, _, _, _, _, _, _, _, _, _, _, _, z⟩ := z
    exact z.elim)) hg hm boot_len (pa_cons h.p pa_nil he) (by decide) (by decide) he) fun σ H Q ⟨Ψ, ρ, S, F, so, eo, q⟩ => ⟨Ψ, ρ, S, F, so, eo, q.bd.mono fun d S1 q1 Ψ1 v H1 x1 s1 r1 => ?_⟩⟩
  have q2 := q1.bd
  unfold insM at q2
  split at q2
  · split at q2
    · rename_i _ fs _ ek _
      subst ek
      have q3 := (show Post c (W σ) Ψ H (bd (noX (callM 1 m [.ins _ fs])) lenI S1) _ from q2).bd
      cases r1 with
      | ins h0 r0 =>
        refine ⟨_, _, _, rfl, slt_phi s1 h0, ?_⟩
        refine prom_of (E := E0) (ds := [.ins _ fs]) s1 (.cons (.ins h0 r0) .nil) ((Post.noX (W' := E0) q3).ext x1) fun d' S' Ψ' v H' q4 e2 s2 r2 => ?_
        unfold lenI at q4
        split at q4
        · split at q4
          · rename_i hb
            cases r2
            exact ⟨_, rfl, by omega, q4 Ψ' _ H' (x1.trans e2) s2 (.int _)⟩
          · exact q4.elim
        · exact q4.elim
    · exact q2.elim
  · exact q2.elim
end Sm

/-! text: Wk -/
set_option Elab.async false
set_option linter.all false
set_option maxRecDepth 100000
set_option maxHeartbeats 0
namespace Wk
open PySem PySem.Spec PyProof.Rows L2 Sm
/-- the text by places -/
def top (i : Nat) : Stmt := PySem.Challenge.pw_seeabove_k48_whole_seams.main.body.getD i (.Pass ⟨0, 0, 0, 0⟩)
abbrev KINDS_L : List Str := ["number", "above", "below", "end"]
abbrev LETTERS_L : List Str := ["a", "b", "c", "d"]
abbrev RANKS_L : List (Str × D) := [("raw", .int 0), ("shift", .int 1), ("follow", .int 2)]
def b__law_cell_at : Sm.Env → M Out :=
  (seqS (fun ρ => bd (boolT (o2 ltI (vb ρ 1) (c1 lenD (consM (vb ρ 0) (rt []))))) fun t => iteM t ((fun ρ => bd (o2 ixD (vb ρ 0) (vb ρ 1)) fun d => rt (.ret d)) ρ) (nextS ρ))
  (fun ρ => bd (rt (.int 0)) fun d => rt (.ret d)))
def m__law_cell_at : List D → M D := fnM 2 b__law_cell_at
def b__law_draw : Sm.Env → M Out :=
  (seqS (setV 3 fun ρ => (tupM (consM (rt (.int 1000003)) (consM (rt (.int 1000033)) (consM (rt (.int 1000037)) (consM (rt (.int 1000039)) (consM (rt (.int 1000081)) (consM (rt (.int 1000099)) (consM (rt (.int 1000117)) (consM (rt (.int 1000121)) (rt [])))))))))))
  (seqS (setV 3 fun ρ => (o2 addA (vb ρ 3) (tupM (consM (rt (.int 1000133)) (consM (rt (.int 1000151)) (consM (rt (.int 1000159)) (consM (rt (.int 1000171)) (consM (rt (.int 1000183)) (consM (rt (.int 1000187)) (consM (rt (.int 1000193)) (consM (rt (.int 1000199)) (rt []))))))))))))
  (fun ρ => bd (o2 modI (c1 intD (consM (o2 modI (c1 intD (consM (o2 addA (o2 mulA (vb ρ 0) (rt (.int 48271))) (o2 mulA (vb ρ 1) (rt (.int 69621)))) (rt []))) (o2 ixD (vb ρ 3) (o2 modI (c1 intD (consM (vb ρ 1) (rt []))) (rt (.int 16))))) (rt []))) (vb ρ 2)) fun d => rt (.ret d))))
def m__law_draw : List D → M D := fnM 4 b__law_draw
def b__law_number : Sm.Env → M Out :=
  (seqS (setV 3 fun ρ => (rt (.int 1)))
  (seqS (fun ρ => bd (range1M (consM (o2 modI (c1 intD (consM (vb ρ 1) (rt []))) (rt (.int 24))) (rt []))) fun ds => forM (.one 4) (setV 3 fun ρ => (o2 mulA (vb ρ 3) (rt (.int 1009)))) ds ρ)
  (seqS (setV 5 fun ρ => (o2 divI (o2 subI (vb ρ 0) (o2 powI (rt (.int 10)) (rt (.int 18)))) (vb ρ 3)))
  (seqS (fun ρ => bd (boolT (o2 gtI (vb ρ 5) (rt (.int 0)))) fun t => iteM t ((fun ρ => bd (o2 modI (c1 intD (consM (o2 modI (c1 intD (consM (vb ρ 5) (rt []))) (rt (.int 1009))) (rt []))) (vb ρ 2)) fun d => rt (.ret d)) ρ) (nextS ρ))
  (seqS (setV 6 fun ρ => (o2 modI (c1 intD (consM (vb ρ 0) (rt []))) (rt (.int 1000003))))
  (fun ρ => bd (o2 modI (c1 intD (consM (bd (consM (o2 mulA (o2 addA (vb ρ 6) (o2 mulA (rt (.int 977)) (vb ρ 1))) (o2 addA (o2 addA (vb ρ 6) (o2 mulA (rt (.int 31)) (vb ρ 1))) (rt (.int 5)))) (consM (o2 addA (o2 modI (c1 intD (consM (vb ρ 1) (rt []))) (rt (.int 9))) (rt (.int 1))) (consM (rt (.int 999983)) (rt [])))) fun ds => callM 3 m__law_draw ds) (rt []))) (vb ρ 2)) fun d => rt (.ret d)))))))
def m__law_number : List D → M D := fnM 7 b__law_number
def b__law_next : Sm.Env → M Out :=
  (seqS (setIx 0 (fun ρ => (o2 addA (o2 ixD (vb ρ 0) (rt (.int 2))) (rt (.int 1)))) (fun ρ => (rt (.int 2))))
  (seqS (setV 2 fun ρ => (o2 divI (o2 ixD (vb ρ 0) (rt (.int 2))) (rt (.int 12))))
  (seqS (setV 3 fun ρ => (o2 addA (bd (consM (o2 ixD (vb ρ 0) (rt (.int 0))) (consM (o2 addA (o2 ixD (vb ρ 0) (rt (.int 1))) (vb ρ 2)) (rt []))) fun ds => callM 2 m__law_cell_at ds) (o2 mulA (rt (.int 31)) (vb ρ 2))))
  (fun ρ => bd (bd (consM (vl ρ 3) (consM (o2 addA (o2 modI (c1 intD (consM (o2 ixD (vb ρ 0) (rt (.int 2))) (rt []))) (rt (.int 12))) (rt (.int 1))) (consM (vl ρ 1) (rt [])))) fun ds => callM 3 m__law_number ds) fun d => rt (.ret d)))))
def m__law_next : List D → M D := fnM 4 b__law_next
def b__law_pick : Sm.Env → M Out :=
  (fun ρ => bd (o2 ixD (vb ρ 1) (bd (consM (vl ρ 0) (consM (c1 lenD (consM (vb ρ 1) (rt []))) (rt []))) fun ds => callM 2 m__law_next ds)) fun d => rt (.ret d))
def m__law_pick : List D → M D := fnM 2 b__law_pick
def b__law_words : Sm.Env → M Out :=
  (seqS (setV 1 fun ρ => (bd (consM (vl ρ 0) (consM (rt (.int 4)) (rt []))) fun ds => callM 2 m__law_next ds))
  (seqS (fun ρ => bd (boolT (o2 eqD (vb ρ 1) (rt (.int 0)))) fun t => iteM t ((fun ρ => bd (o2 mulA (tupM (consM (bd (consM (vl ρ 0) (consM (bd (lstM (consM (rt (.str "raw")) (consM (rt (.str "shift")) (consM (rt (.str "follow")) (rt []))))) fun ds => rt (.lst ds)) (rt []))) fun ds => callM 2 m__law_pick ds) (rt []))) (rt (.int 4))) fun d => rt (.ret d)) ρ) (nextS ρ))
  (fun ρ => bd (c1 tupleD (consM (bd (bd (range1M (consM (rt (.int 4)) (rt []))) fun ds => noX (lcM (fun d => bindD (.one 2) d (wipeE ρ [2])) (fun ρ => (rt true)) (fun ρ => (bd (consM (vl ρ 0) (consM (bd (lstM (consM (rt (.str "raw")) (consM (rt (.str "shift")) (consM (rt (.str "follow")) (consM (rt (.str "follow")) (rt [])))))) fun ds => rt (.lst ds)) (rt []))) fun ds => callM 2 m__law_pick ds)) ds)) fun ds => rt (.lst ds)) (rt []))) fun d => rt (.ret d))))
def m__law_words : List D → M D := fnM 3 b__law_words
def b__law_meant : Sm.Env → M Out :=
  (seqS (asgT (.tup [4, 5]) fun ρ => (vl ρ 2))
  (seqS (fun ρ => bd (boolT (o2 eqD (vb ρ 4) (rt (.str "label")))) fun t => iteM t ((seqS (setN 6 fun ρ => (bd (range1M (consM (c1 lenD (consM (vb ρ 0) (rt []))) (rt []))) fun ds => noX (lcM (fun d => bindD (.one 3) d (wipeE ρ [3])) (fun ρ => (boolT (o2 eqD (o2 ixD (o2 ixD (vb ρ 0) (vb ρ 3)) (rt (.int 0))) (vb ρ 5)))) (fun ρ => (vl ρ 3)) ds)))
  (fun ρ => bd (bd (boolT (o2 neD (vb ρ 6) (bd (lstM (rt [])) fun ds => rt (.lst ds)))) fun t => iteM t (o2 ixD (vb ρ 6) (rt (.int 0))) (rt .non)) fun d => rt (.ret d))) ρ) (nextS ρ))
  (seqS (setV 3 fun ρ => (vl ρ 5))
  (seqS (fun ρ => bd (boolT (o2 eqD (vb ρ 4) (rt (.str "above")))) fun t => iteM t ((setV 3 fun ρ => (o2 subI (vb ρ 1) (vb ρ 5))) ρ) (nextS ρ))
  (seqS (fun ρ => bd (boolT (o2 eqD (vb ρ 4) (rt (.str "below")))) fun t => iteM t ((setV 3 fun ρ => (o2 addA (vb ρ 1) (vb ρ 5))) ρ) (nextS ρ))
  (seqS (fun ρ => bd (boolT (o2 eqD (vb ρ 4) (rt (.str "end")))) fun t => iteM t ((setV 3 fun ρ => (o2 subI (o2 subI (c1 lenD (consM (vb ρ 0) (rt []))) (rt (.int 1))) (vb ρ 5))) ρ) (nextS ρ))
  (fun ρ => bd (bd (boolT (chainM leI ltI (rt (.int 0)) (vb ρ 3) (c1 lenD (consM (vb ρ 0) (rt []))))) fun t => iteM t (vl ρ 3) (rt .non)) fun d => rt (.ret d))))))))
def m__law_meant : List D → M D := fnM 7 b__law_meant
def b__law_healed : Sm.Env → M Out :=
  (seqS (setN 1 fun ρ => (lstM (rt [])))
  (seqS (fun ρ => bd (range1M (consM (c1 lenD (consM (vb ρ 0) (rt []))) (rt []))) fun ds => forM (.one 2) (seqS (setN 3 fun ρ => (bd (bd (o2 ixD (o2 ixD (vb ρ 0) (vb ρ 2)) (rt (.int 1))) seqM) fun ds => noX (lcM (fun d => bindD (.one 4) d (wipeE ρ [4])) (fun ρ => (boolT (bd (bd (consM (vl ρ 0) (consM (vl ρ 2) (consM (vl ρ 4) (rt [])))) fun ds => callM 3 m__law_meant ds) fun x => op1 (isN true) x))) (fun ρ => (vl ρ 4)) ds)))
  (appS 1 fun ρ => (tupM (consM (o2 ixD (o2 ixD (vb ρ 0) (vb ρ 2)) (rt (.int 0))) (consM (c1 tupleD (consM (vb ρ 3) (rt []))) (rt [])))))) ds ρ)
  (fun ρ => bd (c1 tupleD (consM (vb ρ 1) (rt []))) fun d => rt (.ret d))))
def m__law_healed : List D → M D := fnM 5 b__law_healed
def b__law_pointer : Sm.Env → M Out :=
  (seqS (setV 3 fun ρ => (bd (consM (vl ρ 0) (consM (rt (.int 6)) (rt []))) fun ds => callM 2 m__law_next ds))
  (seqS (fun ρ => bd (orT (boolT (o2 eqD (vb ρ 3) (rt (.int 0)))) (boolT (o2 eqD (vb ρ 3) (rt (.int 5))))) fun t => iteM t ((fun ρ => bd (tupM (consM (rt (.str "label")) (consM (bd (consM (vl ρ 0) (consM (bd (o2N addL (bd (c1N listA (consM (rt (.str "abab")) (rt []))) fun ds => rt (.lst ds)) (bd (c1N listA (consM (rt (.str "cd")) (rt []))) fun ds => rt (.lst ds))) fun ds => rt (.lst ds)) (rt []))) fun ds => callM 2 m__law_pick ds) (rt [])))) fun d => rt (.ret d)) ρ) (nextS ρ))
  (seqS (setV 4 fun ρ => (bd (consM (vl ρ 0) (consM (vl ρ 2) (rt []))) fun ds => callM 2 m__law_next ds))
  (seqS (fun ρ => bd (boolT (o2 eqD (vb ρ 3) (rt (.int 1)))) fun t => iteM t ((fun ρ => bd (tupM (consM (rt (.str "number")) (consM (bd (boolT (o2 gtI (bd (consM (vl ρ 0) (consM (rt (.int 6)) (rt []))) fun ds => callM 2 m__law_next ds) (rt (.int 0)))) fun t => iteM t (vl ρ 4) (bd (consM (vl ρ 0) (consM (rt (.int 10)) (rt []))) fun ds => callM 2 m__law_next ds)) (rt [])))) fun d => rt (.ret d)) ρ) (nextS ρ))
  (seqS (fun ρ => bd (andT (boolT (o2 eqD (vb ρ 3) (rt (.int 2)))) (boolT (o2 ltI (vb ρ 4) (vb ρ 1)))) fun t => iteM t ((fun ρ => bd (tupM (consM (rt (.str "above")) (consM (o2 subI (vb ρ 1) (vb ρ 4)) (rt [])))) fun d => rt (.ret d)) ρ) (nextS ρ))
  (seqS (fun ρ => bd (andT (boolT (o2 eqD (vb ρ 3) (rt (.int 3)))) (boolT (o2 gtI (vb ρ 4) (vb ρ 1)))) fun t => iteM t ((fun ρ => bd (tupM (consM (rt (.str "below")) (consM (o2 subI (vb ρ 4) (vb ρ 1)) (rt [])))) fun d => rt (.ret d)) ρ) (nextS ρ))
  (fun ρ => bd (tupM (consM (rt (.str "end")) (consM (o2 subI (o2 subI (vb ρ 2) (rt (.int 1))) (vb ρ 4)) (rt [])))) fun d => rt (.ret d))))))))
def m__law_pointer : List D → M D := fnM 5 b__law_pointer
def b__law_rows : Sm.Env → M Out :=
  (seqS (parS [3, 4] 2 fun ρ => (bd (o2 addA (rt (.int 1)) (bd (consM (vl ρ 0) (consM (vl ρ 1) (rt []))) fun ds => callM 2 m__law_next ds)) fun d => bd (bd (lstM (rt [])) fun ds => bd (rt []) fun ss => rt (.own ds :: ss)) fun ss => rt (.val d :: ss)))
  (seqS (fun ρ => bd (range1M (consM (vl ρ 3) (rt []))) fun ds => forM (.one 2) (seqS (setV 5 fun ρ => (bd (consM (vl ρ 0) (consM (bd (lstM (consM (rt (.str "a")) (consM (rt (.str "b")) (consM (rt .non) (consM (rt .non) (consM (rt (.str "c")) (rt []))))))) fun ds => rt (.lst ds)) (rt []))) fun ds => callM 2 m__law_pick ds))
  (seqS (setN 6 fun ρ => (bd (range1M (consM (bd (consM (vl ρ 0) (consM (bd (lstM (consM (rt (.int 0)) (consM (rt (.int 1)) (consM (rt (.int 1)) (consM (rt (.int 2)) (rt [])))))) fun ds => rt (.lst ds)) (rt []))) fun ds => callM 2 m__law_pick ds) (rt []))) fun ds => noX (lcM (fun d => bindD (.one 7) d (wipeE ρ [7])) (fun ρ => (rt true)) (fun ρ => (bd (consM (vl ρ 0) (consM (vl ρ 2) (consM (vl ρ 3) (rt [])))) fun ds => callM 3 m__law_pointer ds)) ds)))
  (appS 4 fun ρ => (tupM (consM (vl ρ 5) (consM (c1 tupleD (consM (vb ρ 6) (rt []))) (rt []))))))) ds ρ)
  (fun ρ => bd (c1 tupleD (consM (vb ρ 4) (rt []))) fun d => rt (.ret d))))
def m__law_rows : List D → M D := fnM 8 b__law_rows
def b__law_spots : Sm.Env → M Out :=
  (seqS (setN 1 fun ρ => (lstM (rt [])))
  (seqS (fun ρ => bd (range1M (consM (c1 lenD (consM (vb ρ 0) (rt []))) (rt []))) fun ds => forM (.one 2) (setN 1 fun ρ => (o2N addL (vb ρ 1) (bd (bd (range1M (consM (c1 lenD (consM (o2 ixD (o2 ixD (vb ρ 0) (vb ρ 2)) (rt (.int 1))) (rt []))) (rt []))) fun ds => noX (lcM (fun d => bindD (.one 3) d (wipeE ρ [3])) (fun ρ => (rt true)) (fun ρ => (tupM (consM (vl ρ 2) (consM (vl ρ 3) (rt []))))) ds)) fun ds => rt (.lst ds)))) ds ρ)
  (fun ρ => (fun ρ => bd (vl ρ 1) fun d => rt (.ret d)) (frzS [1] ρ))))
def m__law_spots : List D → M D := fnM 4 b__law_spots
def b__law_at : Sm.Env → M Out :=
  (fun ρ => bd (bd (consM (vl ρ 0) (consM (o2 ixD (vb ρ 1) (rt (.int 0))) (consM (o2 ixD (o2 ixD (o2 ixD (vb ρ 0) (o2 ixD (vb ρ 1) (rt (.int 0)))) (rt (.int 1))) (o2 ixD (vb ρ 1) (rt (.int 1)))) (rt [])))) fun ds => callM 3 m__law_meant ds) fun d => rt (.ret d))
def m__law_at : List D → M D := fnM 2 b__law_at
def b__law_is_whole : Sm.Env → M Out :=
  (fun ρ => bd (c1 allD (consM (bd (bd (bd (bd (consM (vl ρ 0) (rt [])) fun ds => callM 1 m__law_spots ds) seqM) fun ds => noX (lcM (fun d => bindD (.one 1) d (wipeE ρ [1])) (fun ρ => (rt true)) (fun ρ => (bd (bd (consM (vl ρ 0) (consM (vl ρ 1) (rt []))) fun ds => callM 2 m__law_at ds) fun x => op1 (isN true) x)) ds)) fun ds => rt (.lst ds)) (rt []))) fun d => rt (.ret d))
def m__law_is_whole : List D → M D := fnM 2 b__law_is_whole
def b__law_sources : Sm.Env → M Out :=
  (seqS (setN 2 fun ρ => (bd (range1M (consM (c1 lenD (consM (vb ρ 0) (rt []))) (rt []))) fun ds => noX (lcM (fun d => bindD (.one 4) d (wipeE ρ [4])) (fun ρ => (rt true)) (fun ρ => (tupM (consM (rt (.str "old")) (consM (vl ρ 4) (consM (rt (.bl false)) (rt [])))))) ds)))
  (seqS (fun ρ => bd (boolT (o2 eqD (o2 ixD (vb ρ 1) (rt (.int 0))) (rt (.str "put")))) fun t => iteM t ((fun ρ => bd (bd (o2N addL (bd (o2N addL (bd (bd (vb ρ 2) fun x => bd (rt none) fun i => bd (bd (o2 ixD (vb ρ 1) (rt (.int 1))) asI) fun j => sliceL x i j) fun ds => rt (.lst ds)) (bd (lstM (consM (rt .non) (rt []))) fun ds => rt (.lst ds))) fun ds => rt (.lst ds)) (bd (bd (vb ρ 2) fun x => bd (bd (o2 ixD (vb ρ 1) (rt (.int 1))) asI) fun i => bd (rt none) fun j => sliceL x i j) fun ds => rt (.lst ds))) fun ds => rt (.lst ds)) fun d => rt (.ret d)) ρ) (nextS ρ))
  (seqS (fun ρ => bd (boolT (o2 eqD (o2 ixD (vb ρ 1) (rt (.int 0))) (rt (.str "copy")))) fun t => iteM t ((fun ρ => bd (bd (o2N addL (bd (o2N addL (bd (bd (vb ρ 2) fun x => bd (rt none) fun i => bd (bd (o2 ixD (vb ρ 1) (rt (.int 2))) asI) fun j => sliceL x i j) fun ds => rt (.lst ds)) (bd (lstM (consM (tupM (consM (rt (.str "old")) (consM (o2 ixD (vb ρ 1) (rt (.int 1))) (consM (rt (.bl true)) (rt []))))) (rt []))) fun ds => rt (.lst ds))) fun ds => rt (.lst ds)) (bd (bd (vb ρ 2) fun x => bd (bd (o2 ixD (vb ρ 1) (rt (.int 2))) asI) fun i => bd (rt none) fun j => sliceL x i j) fun ds => rt (.lst ds))) fun ds => rt (.lst ds)) fun d => rt (.ret d)) ρ) (nextS ρ))
  (seqS (fun ρ => bd (boolT (o2 eqD (o2 ixD (vb ρ 1) (rt (.int 0))) (rt (.str "join")))) fun t => iteM t ((fun ρ => bd (bd (o2N addL (vb ρ 2) (bd (bd (range1M (consM (c1 lenD (consM (o2 ixD (vb ρ 1) (rt (.int 1))) (rt []))) (rt []))) fun ds => noX (lcM (fun d => bindD (.one 4) d (wipeE ρ [4])) (fun ρ => (rt true)) (fun ρ => (tupM (consM (rt (.str "joined")) (consM (vl ρ 4) (consM (rt (.bl false)) (rt [])))))) ds)) fun ds => rt (.lst ds))) fun ds => rt (.lst ds)) fun d => rt (.ret d)) ρ) (nextS ρ))
  (seqS (setN 3 fun ρ => (o2N addL (bd (bd (vb ρ 2) fun x => bd (rt none) fun i => bd (bd (o2 ixD (vb ρ 1) (rt (.int 1))) asI) fun j => sliceL x i j) fun ds => rt (.lst ds)) (bd (bd (vb ρ 2) fun x => bd (bd (o2 addA (o2 ixD (vb ρ 1) (rt (.int 1))) (rt (.int 1))) asI) fun i => bd (rt none) fun j => sliceL x i j) fun ds => rt (.lst ds))))
  (seqS (fun ρ => bd (boolT (o2 eqD (o2 ixD (vb ρ 1) (rt (.int 0))) (rt (.str "out")))) fun t => iteM t ((fun ρ => (fun ρ => bd (vl ρ 3) fun d => rt (.ret d)) (frzS [3] ρ)) ρ) (nextS ρ))
  (fun ρ => bd (bd (o2N addL (bd (o2N addL (bd (bd (vb ρ 3) fun x => bd (rt none) fun i => bd (bd (o2 ixD (vb ρ 1) (rt (.int 2))) asI) fun j => sliceL x i j) fun ds => rt (.lst ds)) (bd (lstM (consM (o2 ixD (vb ρ 2) (o2 ixD (vb ρ 1) (rt (.int 1)))) (rt []))) fun ds => rt (.lst ds))) fun ds => rt (.lst ds)) (bd (bd (vb ρ 3) fun x => bd (bd (o2 ixD (vb ρ 1) (rt (.int 2))) asI) fun i => bd (rt none) fun j => sliceL x i j) fun ds => rt (.lst ds))) fun ds => rt (.lst ds)) fun d => rt (.ret d))))))))
def m__law_sources : List D → M D := fnM 5 b__law_sources
def b__law_same_kind : Sm.Env → M Out :=
  (seqS (fun ρ => bd (boolT (o2 eqD (vb ρ 0) (rt (.str "number")))) fun t => iteM t ((fun ρ => bd (tupM (consM (vl ρ 0) (consM (vl ρ 2) (rt [])))) fun d => rt (.ret d)) ρ) (nextS ρ))
  (seqS (fun ρ => bd (boolT (o2 eqD (vb ρ 0) (rt (.str "end")))) fun t => iteM t ((fun ρ => bd (tupM (consM (vl ρ 0) (consM (o2 subI (o2 subI (vb ρ 3) (rt (.int 1))) (vb ρ 2)) (rt [])))) fun d => rt (.ret d)) ρ) (nextS ρ))
  (seqS (fun ρ => bd (boolT (o2 eqD (vb ρ 0) (rt (.str "above")))) fun t => iteM t ((fun ρ => bd (bd (boolT (o2 ltI (vb ρ 2) (vb ρ 1))) fun t => iteM t (tupM (consM (vl ρ 0) (consM (o2 subI (vb ρ 1) (vb ρ 2)) (rt [])))) (rt .non)) fun d => rt (.ret d)) ρ) (nextS ρ))
  (fun ρ => bd (bd (boolT (o2 gtI (vb ρ 2) (vb ρ 1))) fun t => iteM t (tupM (consM (vl ρ 0) (consM (o2 subI (vb ρ 2) (vb ρ 1)) (rt [])))) (rt .non)) fun d => rt (.ret d)))))
def m__law_same_kind : List D → M D := fnM 4 b__law_same_kind
def b__law_edited : Sm.Env → M Out :=
  (seqS (parS [5, 6, 7] 3 fun ρ => (bd (bd (consM (vl ρ 1) (consM (vl ρ 2) (rt []))) fun ds => callM 2 m__law_sources ds) fun d => bd (bd (lstM (rt [])) fun ds => bd (bd (lstM (rt [])) fun ds => bd (rt []) fun ss => rt (.own ds :: ss)) fun ss => rt (.own ds :: ss)) fun ss => rt (.val d :: ss)))
  (seqS (fun ρ => bd (range1M (consM (c1 lenD (consM (vb ρ 5) (rt []))) (rt []))) fun ds => forM (.one 3) (seqS (parS [13, 14] 2 fun ρ => (bd (o2 ixD (vb ρ 5) (vb ρ 3)) fun d => bd (bd (lstM (rt [])) fun ds => bd (rt []) fun ss => rt (.own ds :: ss)) fun ss => rt (.val d :: ss)))
  (seqS (setV 8 fun ρ => (bd (orT (boolT (bd (vb ρ 13) fun x => op1 (isN false) x)) (boolT (o2 eqD (o2 ixD (vb ρ 13) (rt (.int 0))) (rt (.str "old"))))) fun t => iteM t (vl ρ 1) (o2 ixD (vb ρ 2) (rt (.int 1)))))
  (seqS (fun ρ => bd (bd (bd (boolT (bd (vb ρ 13) fun x => op1 (isN false) x)) fun t => iteM t (tupM (rt [])) (o2 ixD (o2 ixD (vb ρ 8) (o2 ixD (vb ρ 13) (rt (.int 1)))) (rt (.int 1)))) seqM) fun ds => forM (.one 9) (seqS (setV 11 fun ρ => (bd (consM (vl ρ 8) (consM (o2 ixD (vb ρ 13) (rt (.int 1))) (consM (vl ρ 9) (rt [])))) fun ds => callM 3 m__law_meant ds))
  (seqS (setV 15 fun ρ => (bd (boolT (bd (vb ρ 11) fun x => op1 (isN false) x)) fun t => iteM t (rt .non) (tupM (consM (o2 ixD (vb ρ 13) (rt (.int 0))) (consM (vl ρ 11) (consM (rt (.bl false)) (rt [])))))))
  (seqS (setV 12 fun ρ => (bd (andT (boolT (o2 (inD false) (vb ρ 15) (vb ρ 5))) (boolT (bd (vb ρ 15) fun x => op1 (isN true) x))) fun t => iteM t (idxM (vb ρ 5) (vl ρ 15)) (rt .non)))
  (seqS (appS 7 fun ρ => (tupM (consM (vl ρ 3) (consM (c1 lenD (consM (vb ρ 14) (rt []))) (consM (vl ρ 11) (consM (vl ρ 12) (rt [])))))))
  (seqS (parS [17, 18] 2 fun ρ => (bd (lstM (consM (rt (.str "number")) (consM (rt (.str "above")) (consM (rt (.str "below")) (consM (rt (.str "end")) (rt [])))))) fun ds => bd (bd (rt (.str "raw")) fun d => bd (rt []) fun ss => rt (.val d :: ss)) fun ss => rt (.own ds :: ss)))
  (seqS (fun ρ => bd (boolT (o2 neD (o2 ixD (vb ρ 9) (rt (.int 0))) (rt (.str "label")))) fun t => iteM t ((setV 18 fun ρ => (o2 ixD (vb ρ 0) (idxM (vb ρ 17) (o2 ixD (vb ρ 9) (rt (.int 0)))))) ρ) (nextS ρ))
  (seqS (setV 16 fun ρ => (rt .non))
  (seqS (fun ρ => bd (andT (boolT (bd (vb ρ 12) fun x => op1 (isN true) x)) (boolT (o2 neD (o2 ixD (vb ρ 9) (rt (.int 0))) (rt (.str "label"))))) fun t => iteM t ((setV 16 fun ρ => (bd (consM (o2 ixD (vb ρ 9) (rt (.int 0))) (consM (vl ρ 3) (consM (vl ρ 12) (consM (c1 lenD (consM (vb ρ 5) (rt []))) (rt []))))) fun ds => callM 4 m__law_same_kind ds)) ρ) (nextS ρ))
  (seqS (fun ρ => bd (orT (boolT (bd (vb ρ 16) fun x => op1 (isN false) x)) (orT (boolT (o2 eqD (vb ρ 18) (rt (.str "raw")))) (andT (boolT (o2 eqD (vb ρ 18) (rt (.str "shift")))) (boolT (o2 eqD (o2 ixD (vb ρ 2) (rt (.int 0))) (rt (.str "move"))))))) fun t => iteM t ((setV 16 fun ρ => (vl ρ 9)) ρ) (nextS ρ))
  (appS 14 fun ρ => (vl ρ 16))))))))))) ds ρ)
  (appS 6 fun ρ => (tupM (consM (bd (boolT (bd (vb ρ 13) fun x => op1 (isN false) x)) fun t => iteM t (rt .non) (o2 ixD (o2 ixD (vb ρ 8) (o2 ixD (vb ρ 13) (rt (.int 1)))) (rt (.int 0)))) (consM (c1 tupleD (consM (vb ρ 14) (rt []))) (rt [])))))))) ds ρ)
  (seqS (setN 4 fun ρ => (lstM (rt [])))
  (seqS (fun ρ => (fun ρ => bd (bd (vl ρ 7) seqM) fun ds => forM (.tup [3, 10, 11, 12]) (fun ρ => (fun ρ => bd (andT (boolT (bd (vb ρ 11) fun x => op1 (isN true) x)) (orT (boolT (bd (vb ρ 12) fun x => op1 (isN false) x)) (boolT (o2 neD (bd (consM (vl ρ 6) (consM (tupM (consM (vl ρ 3) (consM (vl ρ 10) (rt [])))) (rt []))) fun ds => callM 2 m__law_at ds) (vb ρ 12))))) fun t => iteM t ((appS 4 fun ρ => (tupM (consM (vl ρ 3) (consM (vl ρ 10) (rt []))))) ρ) (nextS ρ)) (frzS [6] ρ)) ds ρ) (frzS [7] ρ))
  (fun ρ => (fun ρ => bd (tupM (consM (c1 tupleD (consM (vb ρ 6) (rt []))) (consM (vl ρ 4) (rt [])))) fun d => rt (.ret d)) (frzS [4] ρ))))))
def m__law_edited : List D → M D := fnM 19 b__law_edited
def b__law_list : Sm.Env → M Out :=
  (seqS (setV 2 fun ρ => (bd (consM (bd (consM (vl ρ 0) (consM (rt (.int 4)) (rt []))) fun ds => callM 2 m__law_rows ds) (rt [])) fun ds => callM 1 m__law_healed ds))
  (seqS (fun ρ => whM (fun ρ => (notT (boolT (bd (consM (vl ρ 2) (rt [])) fun ds => callM 1 m__law_is_whole ds)))) (setV 2 fun ρ => (bd (consM (vl ρ 2) (rt [])) fun ds => callM 1 m__law_healed ds)) 40 ρ)
  (seqS (setV 3 fun ρ => (bd (consM (bd (consM (vl ρ 0) (consM (rt (.int 2)) (rt []))) fun ds => callM 2 m__law_rows ds) (rt [])) fun ds => callM 1 m__law_healed ds))
  (seqS (fun ρ => whM (fun ρ => (notT (boolT (bd (consM (vl ρ 3) (rt [])) fun ds => callM 1 m__law_is_whole ds)))) (setV 3 fun ρ => (bd (consM (vl ρ 3) (rt [])) fun ds => callM 1 m__law_healed ds)) 40 ρ)
  (seqS (asgT (.tup [4, 5]) fun ρ => (bd (consM (vl ρ 1) (consM (vl ρ 2) (consM (tupM (consM (rt (.str "join")) (consM (vl ρ 3) (rt [])))) (rt [])))) fun ds => callM 3 m__law_edited ds))
  (fun ρ => bd (bd (andT (boolT (o2 eqD (vb ρ 5) (bd (lstM (rt [])) fun ds => rt (.lst ds)))) (boolT (o2 gtI (bd (consM (vl ρ 0) (consM (rt (.int 4)) (rt []))) fun ds => callM 2 m__law_next ds) (rt (.int 0))))) fun t => iteM t (vl ρ 4) (vl ρ 2)) fun d => rt (.ret d)))))))
def m__law_list : List D → M D := fnM 6 b__law_list
def b_is_word : Sm.Env → M Out :=
  (fun ρ => bd (andV (c1 isiD (consM (vb ρ 0) (consM (rt (.ty "str")) (rt [])))) (inKDM RANKS_L (vl ρ 0))) fun d => rt (.ret d))
def m_is_word : List D → M D := fnM 1 b_is_word
def b_Way_init : Sm.Env → M Out :=
  (seqS (fun ρ => bd (notT (boolT (c1 allD (consM (bd (bd (bd (tupM (consM (vl ρ 1) (consM (vl ρ 2) (consM (vl ρ 3) (consM (vl ρ 4) (rt [])))))) seqM) fun ds => noX (lcM (fun d => bindD (.one 5) d (wipeE ρ [5])) (fun ρ => (rt true)) (fun ρ => (bd (consM (vl ρ 5) (rt [])) fun ds => callM 1 m_is_word ds)) ds)) fun ds => rt (.lst ds)) (rt []))))) fun t => iteM t ((fun _ => stk) ρ) (nextS ρ))
  (fun ρ => bd (tupM (consM (vl ρ 1) (consM (vl ρ 2) (consM (vl ρ 3) (consM (vl ρ 4) (rt [])))))) fun v => selfM 1 0 ρ v))
def m_Way_init : List D → M D := initM 6 1 1 b_Way_init
def b__law_way : Sm.Env → M Out :=
  (fun ρ => bd (bd (consM (o2 ixD (vb ρ 0) (rt (.int 0))) (consM (o2 ixD (vb ρ 0) (rt (.int 1))) (consM (o2 ixD (vb ρ 0) (rt (.int 2))) (consM (o2 ixD (vb ρ 0) (rt (.int 3))) (rt []))))) fun ds => bd (opt (if ds.length = 4 then some () else none)) fun _ => callM 4 m_Way_init ds) fun d => rt (.ret d))
def m__law_way : List D → M D := fnM 1 b__law_way
def b__law_origins : Sm.Env → M Out :=
  (seqS (asgT (.tup [6, 7]) fun ρ => (vl ρ 3))
  (seqS (parS [8, 9] 2 fun ρ => (bd (o2 ixD (o2 ixD (o2 ixD (vb ρ 1) (vb ρ 6)) (rt (.int 1))) (vb ρ 7)) fun d => bd (bd (lstM (rt [])) fun ds => bd (rt []) fun ss => rt (.own ds :: ss)) fun ss => rt (.val d :: ss)))
  (seqS (setN 4 fun ρ => (lstM (consM (rt (.str "a")) (consM (rt (.str "b")) (consM (rt (.str "c")) (consM (rt (.str "d")) (rt [])))))))
  (seqS (fun ρ => bd (boolT (o2 neD (o2 ixD (vb ρ 8) (rt (.int 0))) (rt (.str "label")))) fun t => iteM t ((setN 4 fun ρ => (listRg2M (bd (boolT (o2 (inD false) (o2 ixD (vb ρ 8) (rt (.int 0))) (tupM (consM (rt (.str "above")) (consM (rt (.str "below")) (rt [])))))) fun t => iteM t (rt (.int 1)) (rt (.int 0))) (rt (.int 10)))) ρ) (nextS ρ))
  (seqS (fun ρ => (fun ρ => bd (bd (vl ρ 4) seqM) fun ds => forM (.one 5) (seqS (setN 10 fun ρ => (bd (bd (vl ρ 1) fun d => bd (seqM d) fun ds => rt (enumL 0 ds)) fun ds => noX (lcM (fun d => bindD (.tup [15, 16]) d (wipeE ρ [15, 16])) (fun ρ => (rt true)) (fun ρ => (tupM (consM (o2 ixD (vb ρ 16) (rt (.int 0))) (consM (bd (boolT (o2 eqD (vb ρ 15) (vb ρ 6))) fun t => iteM t (tupM (consM (tupM (consM (o2 ixD (vb ρ 8) (rt (.int 0))) (consM (vl ρ 5) (rt [])))) (rt []))) (tupM (rt []))) (rt []))))) ds)))
  (seqS (parS [11, 12] 2 fun ρ => (bd (c1 tupleD (consM (bd (bd (vb ρ 10) fun x => bd (rt none) fun i => bd (bd (vb ρ 2) asI) fun j => sliceL x i j) fun ds => rt (.lst ds)) (rt []))) fun d => bd (bd (c1 tupleD (consM (bd (bd (vb ρ 10) fun x => bd (bd (vb ρ 2) asI) fun i => bd (rt none) fun j => sliceL x i j) fun ds => rt (.lst ds)) (rt []))) fun d => bd (rt []) fun ss => rt (.val d :: ss)) fun ss => rt (.val d :: ss)))
  (seqS (asgT (.tup [13, 14]) fun ρ => (bd (consM (vl ρ 0) (consM (vl ρ 11) (consM (tupM (consM (rt (.str "join")) (consM (vl ρ 12) (rt [])))) (rt [])))) fun ds => callM 3 m__law_edited ds))
  (fun ρ => bd (andT (boolT (bd (consM (vl ρ 11) (rt [])) fun ds => callM 1 m__law_is_whole ds)) (andT (boolT (bd (consM (vl ρ 12) (rt [])) fun ds => callM 1 m__law_is_whole ds)) (andT (boolT (o2 eqD (vb ρ 14) (bd (lstM (rt [])) fun ds => rt (.lst ds)))) (boolT (o2 eqD (o2 ixD (o2 ixD (vb ρ 13) (vb ρ 6)) (rt (.int 1))) (tupM (consM (vl ρ 8) (rt [])))))))) fun t => iteM t ((appS 9 fun ρ => (tupM (consM (o2 ixD (vb ρ 8) (rt (.int 0))) (consM (vl ρ 5) (rt []))))) ρ) (nextS ρ))))) ds ρ) (frzS [4] ρ))
  (fun ρ => (fun ρ => bd (vl ρ 9) fun d => rt (.ret d)) (frzS [9] ρ)))))))
def m__law_origins : List D → M D := fnM 17 b__law_origins
def b__law_halves : Sm.Env → M Out :=
  (seqS (setN 3 fun ρ => (lstM (rt [])))
  (seqS (fun ρ => bd (bd (vl ρ 1) fun d => bd (seqM d) fun ds => rt (enumL 0 ds)) fun ds => forM (.tup [4, 5]) (seqS (setN 6 fun ρ => (bd (range1M (consM (c1 lenD (consM (o2 ixD (vb ρ 5) (rt (.int 1))) (rt []))) (rt []))) fun ds => noX (lcM (fun d => bindD (.one 7) d (wipeE ρ [7])) (fun ρ => (rt true)) (fun ρ => (bd (consM (vl ρ 0) (consM (vl ρ 1) (consM (vl ρ 2) (consM (tupM (consM (vl ρ 4) (consM (vl ρ 7) (rt [])))) (rt []))))) fun ds => callM 4 m__law_origins ds)) ds)))
  (seqS (fun ρ => bd (notT (boolT (c1 allD (consM (bd (bd (bd (vb ρ 6) ownM) fun ds => noX (lcM (fun d => bindD (.one 8) d (wipeE ρ [8])) (fun ρ => (rt true)) (fun ρ => (o2 eqD (c1 lenD (consM (vb ρ 8) (rt []))) (rt (.int 1)))) ds)) fun ds => rt (.lst ds)) (rt []))))) fun t => iteM t ((fun ρ => bd (rt .non) fun d => rt (.ret d)) ρ) (nextS ρ))
  (appS 3 fun ρ => (tupM (consM (o2 ixD (vb ρ 5) (rt (.int 0))) (consM (c1 tupleD (consM (bd (bd (bd (vb ρ 6) ownM) fun ds => noX (lcM (fun d => bindD (.one 8) d (wipeE ρ [8])) (fun ρ => (rt true)) (fun ρ => (o2 ixD (vb ρ 8) (rt (.int 0)))) ds)) fun ds => rt (.lst ds)) (rt []))) (rt []))))))) ds ρ)
  (fun ρ => bd (tupM (consM (c1 tupleD (consM (bd (bd (vb ρ 3) fun x => bd (rt none) fun i => bd (bd (vb ρ 2) asI) fun j => sliceL x i j) fun ds => rt (.lst ds)) (rt []))) (consM (c1 tupleD (consM (bd (bd (vb ρ 3) fun x => bd (bd (vb ρ 2) asI) fun i => bd (rt none) fun j => sliceL x i j) fun ds => rt (.lst ds)) (rt []))) (rt [])))) fun d => rt (.ret d))))
def m__law_halves : List D → M D := fnM 9 b__law_halves
def b_check_way : Sm.Env → M Out :=
  (fun ρ => bd (notT (boolT (c1 (isoD 4) (consM (vb ρ 0) (consM (rt (.cls 1)) (rt [])))))) fun t => iteM t ((fun _ => stk) ρ) (nextS ρ))
def m_check_way : List D → M D := fnM 1 b_check_way
def b_check_steps : Sm.Env → M Out :=
  (fun ρ => bd (notT (boolT (c1 (isoD 4) (consM (vb ρ 0) (consM (rt (.cls 0)) (rt [])))))) fun t => iteM t ((fun _ => stk) ρ) (nextS ρ))
def m_check_steps : List D → M D := fnM 1 b_check_steps
def b_Steps_len : Sm.Env → M Out :=
  (fun ρ => bd (c1 lenD (consM (bd (vl ρ 0) (slotM 0 0)) (rt []))) fun d => rt (.ret d))
def m_Steps_len : List D → M D := fnM 1 b_Steps_len
def b_all_spots : Sm.Env → M Out :=
  (fun ρ => bd (bd (bd (bd (vl ρ 0) fun d => bd (seqM d) fun ds => rt (enumL 0 ds)) fun ds => noX (few ds (fitM (lc2M (fun d => bindD (.tup [2, 3]) d (wipeE ρ [2, 3, 1])) (fun ρ => (rt true)) (fun ρ => (range1M (consM (c1 lenD (consM (o2 ixD (vb ρ 3) (rt (.int 1))) (rt []))) (rt [])))) (fun ρ d => bindD (.one 1) d (wipeE ρ [1])) (fun ρ => (rt true)) (fun ρ => (tupM (consM (vl ρ 2) (consM (vl ρ 1) (rt []))))) ds)))) fun ds => rt (.lst ds)) fun d => rt (.ret d))
def m_all_spots : List D → M D := fnM 4 b_all_spots
def b_first_with : Sm.Env → M Out :=
  (seqS (fun ρ => bd (bd (vl ρ 0) fun d => bd (seqM d) fun ds => rt (enumL 0 ds)) fun ds => forM (.tup [2, 3]) (fun ρ => bd (boolT (o2 eqD (o2 ixD (vb ρ 3) (rt (.int 0))) (vb ρ 1))) fun t => iteM t ((fun ρ => bd (vl ρ 2) fun d => rt (.ret d)) ρ) (nextS ρ)) ds ρ)
  (fun ρ => bd (rt .non) fun d => rt (.ret d)))
def m_first_with : List D → M D := fnM 4 b_first_with
def b_meaning : Sm.Env → M Out :=
  (seqS (asgT (.tup [3, 4]) fun ρ => (vl ρ 2))
  (seqS (fun ρ => bd (boolT (o2 eqD (vb ρ 3) (rt (.str "label")))) fun t => iteM t ((fun ρ => bd (bd (consM (vl ρ 0) (consM (vl ρ 4) (rt []))) fun ds => callM 2 m_first_with ds) fun d => rt (.ret d)) ρ) (nextS ρ))
  (seqS (fun ρ => bd (boolT (o2 eqD (vb ρ 3) (rt (.str "number")))) fun t => iteM t ((setV 5 fun ρ => (vl ρ 4)) ρ) ((fun ρ => bd (boolT (o2 eqD (vb ρ 3) (rt (.str "end")))) fun t => iteM t ((setV 5 fun ρ => (o2 subI (o2 subI (c1 lenD (consM (vb ρ 0) (rt []))) (rt (.int 1))) (vb ρ 4))) ρ) ((setV 5 fun ρ => (bd (boolT (o2 eqD (vb ρ 3) (rt (.str "above")))) fun t => iteM t (o2 subI (vb ρ 1) (vb ρ 4)) (o2 addA (vb ρ 1) (vb ρ 4)))) ρ)) ρ))
  (fun ρ => bd (bd (boolT (chainM leI ltI (rt (.int 0)) (vb ρ 5) (c1 lenD (consM (vb ρ 0) (rt []))))) fun t => iteM t (vl ρ 5) (rt .non)) fun d => rt (.ret d)))))
def m_meaning : List D → M D := fnM 6 b_meaning
def b_meant_at : Sm.Env → M Out :=
  (fun ρ => bd (bd (consM (vl ρ 0) (consM (o2 ixD (vb ρ 1) (rt (.int 0))) (consM (o2 ixD (o2 ixD (o2 ixD (vb ρ 0) (o2 ixD (vb ρ 1) (rt (.int 0)))) (rt (.int 1))) (o2 ixD (vb ρ 1) (rt (.int 1)))) (rt [])))) fun ds => callM 3 m_meaning ds) fun d => rt (.ret d))
def m_meant_at : List D → M D := fnM 2 b_meant_at
def b_does_bar : Sm.Env → M Out :=
  (seqS (parS [5, 6] 2 fun ρ => (bd (o2 ixD (vb ρ 3) (rt (.int 0))) fun d => bd (bd (bd (consM (vl ρ 1) (consM (vl ρ 3) (rt []))) fun ds => callM 2 m_meant_at ds) fun d => bd (rt []) fun ss => rt (.val d :: ss)) fun ss => rt (.val d :: ss)))
  (seqS (fun ρ => bd (orT (boolT (bd (vb ρ 6) fun x => op1 (isN false) x)) (boolT (o2 neD (o2 ltI (vb ρ 6) (vb ρ 2)) (o2 ltI (vb ρ 5) (vb ρ 2))))) fun t => iteM t ((fun ρ => bd (rt (.bl true)) fun d => rt (.ret d)) ρ) (nextS ρ))
  (seqS (setV 4 fun ρ => (o2 ixD (o2 ixD (o2 ixD (o2 ixD (vb ρ 1) (vb ρ 5)) (rt (.int 1))) (o2 ixD (vb ρ 3) (rt (.int 1)))) (rt (.int 0))))
  (seqS (fun ρ => bd (boolT (o2 eqD (vb ρ 4) (rt (.str "end")))) fun t => iteM t ((fun ρ => bd (andV (chainM ltI ltI (vb ρ 5) (vb ρ 2) (c1 lenD (consM (vb ρ 1) (rt [])))) (o2 eqD (o2 ixD (vb ρ 0) (kidxM KINDS_L (rt (.str "end")))) (rt (.str "raw")))) fun d => rt (.ret d)) ρ) (nextS ρ))
  (fun ρ => bd (andV (o2 eqD (vb ρ 4) (rt (.str "number"))) (andV (chainM geI gtI (vb ρ 5) (vb ρ 2) (rt (.int 0))) (o2 eqD (o2 ixD (vb ρ 0) (kidxM KINDS_L (rt (.str "number")))) (rt (.str "raw"))))) fun d => rt (.ret d))))))
def m_does_bar : List D → M D := fnM 7 b_does_bar
def b_bars_of : Sm.Env → M Out :=
  (fun ρ => bd (bd (bd (bd (bd (consM (vl ρ 1) (rt [])) fun ds => callM 1 m_all_spots ds) seqM) fun ds => noX (lcM (fun d => bindD (.one 3) d (wipeE ρ [3])) (fun ρ => (boolT (bd (consM (vl ρ 0) (consM (vl ρ 1) (consM (vl ρ 2) (consM (vl ρ 3) (rt []))))) fun ds => callM 4 m_does_bar ds))) (fun ρ => (vl ρ 3)) ds)) fun ds => rt (.lst ds)) fun d => rt (.ret d))
def m_bars_of : List D → M D := fnM 4 b_bars_of
def b_Way_words : Sm.Env → M Out :=
  (fun ρ => bd (bd (vl ρ 0) (slotM 1 0)) fun d => rt (.ret d))
def m_Way_words : List D → M D := fnM 1 b_Way_words
def b_Steps_rows : Sm.Env → M Out :=
  (fun ρ => bd (bd (vl ρ 0) (slotM 0 0)) fun d => rt (.ret d))
def m_Steps_rows : List D → M D := fnM 1 b_Steps_rows
def b_seams : Sm.Env → M Out :=
  (seqS (fun ρ => bd (bd (consM (vl ρ 0) (rt [])) fun ds => callM 1 m_check_way ds) fun _ => rt (.nx ρ))
  (seqS (fun ρ => bd (bd (consM (vl ρ 1) (rt [])) fun ds => callM 1 m_check_steps ds) fun _ => rt (.nx ρ))
  (fun ρ => bd (bd (bd (range1M (consM (o2 addA (bd (vl ρ 1) fun d => bd (insM 0 d) fun d => bd (noX (callM 1 m_Steps_len [d])) lenI) (rt (.int 1))) (rt []))) fun ds => noX (lcM (fun d => bindD (.one 2) d (wipeE ρ [2])) (fun ρ => (boolT (o2 eqD (bd (consM (bd (vl ρ 0) fun d => bd (insM 1 d) fun d => noX (callM 1 m_Way_words [d])) (consM (bd (vl ρ 1) fun d => bd (insM 0 d) fun d => noX (callM 1 m_Steps_rows [d])) (consM (vl ρ 2) (rt [])))) fun ds => callM 3 m_bars_of ds) (bd (lstM (rt [])) fun ds => rt (.lst ds))))) (fun ρ => (vl ρ 2)) ds)) fun ds => rt (.lst ds)) fun d => rt (.ret d))))
def m_seams : List D → M D := fnM 3 b_seams
def b_is_label : Sm.Env → M Out :=
  (fun ρ => bd (andV (c1 isiD (consM (vb ρ 0) (consM (rt (.ty "str")) (rt [])))) (o2 (inD false) (vb ρ 0) (rt (.tup (LETTERS_L.map D.str))))) fun d => rt (.ret d))
def m_is_label : List D → M D := fnM 1 b_is_label
def b_is_number : Sm.Env → M Out :=
  (fun ρ => bd (andV (c1 isiD (consM (vb ρ 0) (consM (rt (.ty "int")) (rt [])))) (andV (notV (c1 isiD (consM (vb ρ 0) (consM (rt (.ty "bool")) (rt []))))) (chainM leI leI (vb ρ 1) (vb ρ 0) (vb ρ 2)))) fun d => rt (.ret d))
def m_is_number : List D → M D := fnM 3 b_is_number
def b_is_pointer : Sm.Env → M Out :=
  (seqS (fun ρ => bd (orT (notT (boolT (c1 isiD (consM (vb ρ 0) (consM (rt (.ty "tuple")) (rt [])))))) (orT (boolT (o2 neD (c1 lenD (consM (vb ρ 0) (rt []))) (rt (.int 2)))) (notT (boolT (c1 isiD (consM (o2 ixD (vb ρ 0) (rt (.int 0))) (consM (rt (.ty "str")) (rt [])))))))) fun t => iteM t ((fun ρ => bd (rt (.bl false)) fun d => rt (.ret d)) ρ) (nextS ρ))
  (seqS (fun ρ => bd (boolT (o2 eqD (o2 ixD (vb ρ 0) (rt (.int 0))) (rt (.str "label")))) fun t => iteM t ((fun ρ => bd (bd (consM (o2 ixD (vb ρ 0) (rt (.int 1))) (rt [])) fun ds => callM 1 m_is_label ds) fun d => rt (.ret d)) ρ) (nextS ρ))
  (seqS (fun ρ => bd (boolT (o2 (inD false) (o2 ixD (vb ρ 0) (rt (.int 0))) (tupM (consM (rt (.str "above")) (consM (rt (.str "below")) (rt [])))))) fun t => iteM t ((fun ρ => bd (bd (consM (o2 ixD (vb ρ 0) (rt (.int 1))) (consM (rt (.int 1)) (consM (rt (.int 9)) (rt [])))) fun ds => callM 3 m_is_number ds) fun d => rt (.ret d)) ρ) (nextS ρ))
  (fun ρ => bd (andV (o2 (inD false) (o2 ixD (vb ρ 0) (rt (.int 0))) (tupM (consM (rt (.str "number")) (consM (rt (.str "end")) (rt []))))) (bd (consM (o2 ixD (vb ρ 0) (rt (.int 1))) (consM (rt (.int 0)) (consM (rt (.int 9)) (rt [])))) fun ds => callM 3 m_is_number ds)) fun d => rt (.ret d)))))
def m_is_pointer : List D → M D := fnM 1 b_is_pointer
def b_is_step : Sm.Env → M Out :=
  (seqS (fun ρ => bd (orT (notT (boolT (c1 isiD (consM (vb ρ 0) (consM (rt (.ty "tuple")) (rt [])))))) (orT (boolT (o2 neD (c1 lenD (consM (vb ρ 0) (rt []))) (rt (.int 2)))) (notT (orT (boolT (bd (o2 ixD (vb ρ 0) (rt (.int 0))) fun x => op1 (isN false) x)) (boolT (bd (consM (o2 ixD (vb ρ 0) (rt (.int 0))) (rt [])) fun ds => callM 1 m_is_label ds)))))) fun t => iteM t ((fun ρ => bd (rt (.bl false)) fun d => rt (.ret d)) ρ) (nextS ρ))
  (seqS (fun ρ => bd (orT (notT (boolT (c1 isiD (consM (o2 ixD (vb ρ 0) (rt (.int 1))) (consM (rt (.ty "tuple")) (rt [])))))) (boolT (o2 gtI (c1 lenD (consM (o2 ixD (vb ρ 0) (rt (.int 1))) (rt []))) (rt (.int 2))))) fun t => iteM t ((fun ρ => bd (rt (.bl false)) fun d => rt (.ret d)) ρ) (nextS ρ))
  (fun ρ => bd (c1 allD (consM (bd (bd (bd (o2 ixD (vb ρ 0) (rt (.int 1))) seqM) fun ds => noX (lcM (fun d => bindD (.one 1) d (wipeE ρ [1])) (fun ρ => (rt true)) (fun ρ => (bd (consM (vl ρ 1) (rt [])) fun ds => callM 1 m_is_pointer ds)) ds)) fun ds => rt (.lst ds)) (rt []))) fun d => rt (.ret d))))
def m_is_step : List D → M D := fnM 2 b_is_step
def b_Steps_init : Sm.Env → M Out :=
  (seqS (fun ρ => bd (orT (notT (boolT (c1 isiD (consM (vb ρ 1) (consM (rt (.ty "tuple")) (rt [])))))) (boolT (o2 gtI (c1 lenD (consM (vb ρ 1) (rt []))) (rt (.int 6))))) fun t => iteM t ((fun _ => stk) ρ) (nextS ρ))
  (seqS (fun ρ => bd (bd (vl ρ 1) fun d => bd (seqM d) fun ds => rt (enumL 0 ds)) fun ds => forM (.tup [2, 3]) (fun ρ => bd (notT (boolT (bd (consM (vl ρ 3) (rt [])) fun ds => callM 1 m_is_step ds))) fun t => iteM t ((fun _ => stk) ρ) (nextS ρ)) ds ρ)
  (fun ρ => bd (vl ρ 1) fun v => selfM 0 0 ρ v)))
def m_Steps_init : List D → M D := initM 4 1 0 b_Steps_init
def b_are_whole : Sm.Env → M Out :=
  (fun ρ => bd (c1 allD (consM (bd (bd (bd (bd (consM (vl ρ 0) (rt [])) fun ds => callM 1 m_all_spots ds) seqM) fun ds => noX (lcM (fun d => bindD (.one 1) d (wipeE ρ [1])) (fun ρ => (rt true)) (fun ρ => (bd (bd (consM (vl ρ 0) (consM (vl ρ 1) (rt []))) fun ds => callM 2 m_meant_at ds) fun x => op1 (isN true) x)) ds)) fun ds => rt (.lst ds)) (rt []))) fun d => rt (.ret d))
def m_are_whole : List D → M D := fnM 2 b_are_whole
def b_check_whole_by : Sm.Env → M Out :=
  (seqS (fun ρ => bd (bd (consM (vl ρ 0) (rt [])) fun ds => callM 1 m_check_way ds) fun _ => rt (.nx ρ))
  (seqS (fun ρ => bd (bd (consM (vl ρ 1) (rt [])) fun ds => callM 1 m_check_steps ds) fun _ => rt (.nx ρ))
  (fun ρ => bd (notT (boolT (bd (consM (bd (vl ρ 1) fun d => bd (insM 0 d) fun d => noX (callM 1 m_Steps_rows [d])) (rt [])) fun ds => callM 1 m_are_whole ds))) fun t => iteM t ((fun _ => stk) ρ) (nextS ρ))))
def m_check_whole_by : List D → M D := fnM 2 b_check_whole_by
def b_pointer_in_half : Sm.Env → M Out :=
  (seqS (asgT (.tup [4, 5]) fun ρ => (vl ρ 0))
  (seqS (fun ρ => bd (andT (boolT (o2 eqD (vb ρ 4) (rt (.str "end")))) (boolT (o2 ltI (vb ρ 3) (vb ρ 2)))) fun t => iteM t ((fun ρ => bd (tupM (consM (vl ρ 4) (consM (o2 subI (vb ρ 5) (o2 subI (c1 lenD (consM (vb ρ 1) (rt []))) (vb ρ 2))) (rt [])))) fun d => rt (.ret d)) ρ) (nextS ρ))
  (seqS (fun ρ => bd (andT (boolT (o2 eqD (vb ρ 4) (rt (.str "number")))) (boolT (o2 geI (vb ρ 3) (vb ρ 2)))) fun t => iteM t ((fun ρ => bd (tupM (consM (vl ρ 4) (consM (o2 subI (vb ρ 5) (vb ρ 2)) (rt [])))) fun d => rt (.ret d)) ρ) (nextS ρ))
  (fun ρ => bd (vl ρ 0) fun d => rt (.ret d)))))
def m_pointer_in_half : List D → M D := fnM 6 b_pointer_in_half
def b_half_of : Sm.Env → M Out :=
  (seqS (setN 3 fun ρ => (lstM (rt [])))
  (seqS (fun ρ => bd (bd (vl ρ 2) seqM) fun ds => forM (.one 4) (seqS (asgT (.tup [5, 6]) fun ρ => (o2 ixD (vb ρ 0) (vb ρ 4)))
  (appS 3 fun ρ => (tupM (consM (vl ρ 5) (consM (c1 tupleD (consM (bd (bd (bd (vl ρ 6) seqM) fun ds => noX (lcM (fun d => bindD (.one 7) d (wipeE ρ [7])) (fun ρ => (rt true)) (fun ρ => (bd (consM (vl ρ 7) (consM (vl ρ 0) (consM (vl ρ 1) (consM (vl ρ 4) (rt []))))) fun ds => callM 4 m_pointer_in_half ds)) ds)) fun ds => rt (.lst ds)) (rt []))) (rt [])))))) ds ρ)
  (fun ρ => bd (bd (consM (c1 tupleD (consM (vb ρ 3) (rt []))) (rt [])) fun ds => callM 1 m_Steps_init ds) fun d => rt (.ret d))))
def m_half_of : List D → M D := fnM 8 b_half_of
def b_halves_of : Sm.Env → M Out :=
  (fun ρ => bd (tupM (consM (bd (consM (vl ρ 0) (consM (vl ρ 1) (consM (bd (listRgM (vl ρ 1)) fun ds => rt (.lst ds)) (rt [])))) fun ds => callM 3 m_half_of ds) (consM (bd (consM (vl ρ 0) (consM (vl ρ 1) (consM (bd (listRg2M (vl ρ 1) (c1 lenD (consM (vb ρ 0) (rt [])))) fun ds => rt (.lst ds)) (rt [])))) fun ds => callM 3 m_half_of ds) (rt [])))) fun d => rt (.ret d))
def m_halves_of : List D → M D := fnM 2 b_halves_of
def m_blocks_of : Nat → List D → M D
  | 0 => fun _ => stk
  | fu + 1 => fnM 5 (seqS (fun ρ => bd (range2M (consM (rt (.int 1)) (consM (c1 lenD (consM (vb ρ 1) (rt []))) (rt [])))) fun ds => forM (.one 2) (fun ρ => bd (boolT (o2 eqD (bd (consM (vl ρ 0) (consM (vl ρ 1) (consM (vl ρ 2) (rt [])))) fun ds => callM 3 m_bars_of ds) (bd (lstM (rt [])) fun ds => rt (.lst ds)))) fun t => iteM t ((seqS (asgT (.tup [3, 4]) fun ρ => (bd (consM (vl ρ 1) (consM (vl ρ 2) (rt []))) fun ds => callM 2 m_halves_of ds))
  (fun ρ => bd (bd (lstM (consM (vl ρ 3) (appM (bd (bd (consM (vl ρ 0) (consM (bd (vl ρ 4) fun d => bd (insM 0 d) fun d => noX (callM 1 m_Steps_rows [d])) (rt []))) fun ds => callM 2 (m_blocks_of fu) ds) starM) (rt [])))) fun ds => rt (.lst ds)) fun d => rt (.ret d))) ρ) (nextS ρ)) ds ρ)
  (fun ρ => bd (bd (boolT (o2 neD (vb ρ 1) (tupM (rt [])))) fun t => iteM t (bd (lstM (consM (bd (consM (vl ρ 1) (rt [])) fun ds => callM 1 m_Steps_init ds) (rt []))) fun ds => rt (.lst ds)) (bd (lstM (rt [])) fun ds => rt (.lst ds))) fun d => rt (.ret d)))
def b_blocks : Sm.Env → M Out :=
  (seqS (fun ρ => bd (bd (consM (vl ρ 0) (consM (vl ρ 1) (rt []))) fun ds => callM 2 m_check_whole_by ds) fun _ => rt (.nx ρ))
  (fun ρ => bd (bd (consM (bd (vl ρ 0) fun d => bd (insM 1 d) fun d => noX (callM 1 m_Way_words [d])) (consM (bd (vl ρ 1) fun d => bd (insM 0 d) fun d => noX (callM 1 m_Steps_rows [d])) (rt []))) fun ds => callM 2 (m_blocks_of 8) ds) fun d => rt (.ret d)))
def m_blocks : List D → M D := fnM 2 b_blocks
def b__law_blocks : Sm.Env → M Out :=
  (seqS (parS [3, 4] 2 fun ρ => (bd (lstM (rt [])) fun ds => bd (bd (vl ρ 1) fun d => bd (rt []) fun ss => rt (.val d :: ss)) fun ss => rt (.own ds :: ss)))
  (seqS (fun ρ => bd (range1M (consM (c1 lenD (consM (vb ρ 1) (rt []))) (rt []))) fun ds => forM (.one 2) (seqS (setN 5 fun ρ => (bd (range2M (consM (rt (.int 1)) (consM (o2 addA (c1 lenD (consM (vb ρ 4) (rt []))) (rt (.int 1))) (rt [])))) fun ds => noX (lcM (fun d => bindD (.one 6) d (wipeE ρ [6])) (fun ρ => (rt true)) (fun ρ => (bd (consM (vl ρ 0) (consM (vl ρ 4) (consM (vl ρ 6) (rt [])))) fun ds => callM 3 m__law_halves ds)) ds)))
  (seqS (setN 5 fun ρ => (bd (bd (vb ρ 5) ownM) fun ds => noX (lcM (fun d => bindD (.one 7) d (wipeE ρ [7])) (fun ρ => (boolT (bd (vb ρ 7) fun x => op1 (isN true) x))) (fun ρ => (vl ρ 7)) ds)))
  (fun ρ => bd (boolT (o2 neD (vb ρ 5) (bd (lstM (rt [])) fun ds => rt (.lst ds)))) fun t => iteM t ((seqS (appS 3 fun ρ => (o2 ixD (o2 ixD (vb ρ 5) (rt (.int 0))) (rt (.int 0))))
  (setV 4 fun ρ => (o2 ixD (o2 ixD (vb ρ 5) (rt (.int 0))) (rt (.int 1))))) ρ) (nextS ρ)))) ds ρ)
  (fun ρ => (fun ρ => bd (vl ρ 3) fun d => rt (.ret d)) (frzS [3] ρ))))
def m__law_blocks : List D → M D := fnM 8 b__law_blocks
def b_check_gap : Sm.Env → M Out :=
  (seqS (fun ρ => bd (bd (consM (vl ρ 0) (rt [])) fun ds => callM 1 m_check_way ds) fun _ => rt (.nx ρ))
  (seqS (fun ρ => bd (bd (consM (vl ρ 1) (rt [])) fun ds => callM 1 m_check_steps ds) fun _ => rt (.nx ρ))
  (fun ρ => bd (notT (boolT (bd (consM (vl ρ 2) (consM (rt (.int 0)) (consM (bd (vl ρ 1) fun d => bd (insM 0 d) fun d => bd (noX (callM 1 m_Steps_len [d])) lenI) (rt [])))) fun ds => callM 3 m_is_number ds))) fun t => iteM t ((fun _ => stk) ρ) (nextS ρ))))
def m_check_gap : List D → M D := fnM 3 b_check_gap
def b_Barred_init : Sm.Env → M Out :=
  (fun ρ => bd (vl ρ 1) fun v => selfM 3 0 ρ v)
def m_Barred_init : List D → M D := initM 2 1 3 b_Barred_init
def b_Halves_init : Sm.Env → M Out :=
  (seqS (fun ρ => bd (vl ρ 1) fun v => selfM 2 0 ρ v)
  (fun ρ => bd (vl ρ 2) fun v => selfM 2 1 ρ v))
def m_Halves_init : List D → M D := initM 3 2 2 b_Halves_init
def b_take_apart : Sm.Env → M Out :=
  (seqS (fun ρ => bd (bd (consM (vl ρ 0) (consM (vl ρ 1) (consM (vl ρ 2) (rt [])))) fun ds => callM 3 m_check_gap ds) fun _ => rt (.nx ρ))
  (seqS (setV 3 fun ρ => (bd (consM (bd (vl ρ 0) fun d => bd (insM 1 d) fun d => noX (callM 1 m_Way_words [d])) (consM (bd (vl ρ 1) fun d => bd (insM 0 d) fun d => noX (callM 1 m_Steps_rows [d])) (consM (vl ρ 2) (rt [])))) fun ds => callM 3 m_bars_of ds))
  (seqS (fun ρ => bd (boolT (o2 neD (vb ρ 3) (bd (lstM (rt [])) fun ds => rt (.lst ds)))) fun t => iteM t ((fun ρ => bd (bd (consM (o2 ixD (vb ρ 3) (rt (.int 0))) (rt [])) fun ds => callM 1 m_Barred_init ds) fun d => rt (.ret d)) ρ) (nextS ρ))
  (seqS (asgT (.tup [4, 5]) fun ρ => (bd (consM (bd (vl ρ 1) fun d => bd (insM 0 d) fun d => noX (callM 1 m_Steps_rows [d])) (consM (vl ρ 2) (rt []))) fun ds => callM 2 m_halves_of ds))
  (fun ρ => bd (bd (consM (vl ρ 4) (consM (vl ρ 5) (rt []))) fun ds => callM 2 m_Halves_init ds) fun d => rt (.ret d))))))
def m_take_apart : List D → M D := fnM 6 b_take_apart
def b_sources : Sm.Env → M Out :=
  (seqS (setN 2 fun ρ => (bd (range1M (consM (c1 lenD (consM (vb ρ 0) (rt []))) (rt []))) fun ds => noX (lcM (fun d => bindD (.one 3) d (wipeE ρ [3])) (fun ρ => (rt true)) (fun ρ => (tupM (consM (rt (.str "old")) (consM (vl ρ 3) (consM (rt (.bl false)) (rt [])))))) ds)))
  (seqS (fun ρ => bd (boolT (o2 eqD (o2 ixD (vb ρ 1) (rt (.int 0))) (rt (.str "put")))) fun t => iteM t ((insS 2 fun ρ => (consM (o2 ixD (vb ρ 1) (rt (.int 1))) (consM (rt .non) (rt [])))) ρ) ((fun ρ => bd (boolT (o2 eqD (o2 ixD (vb ρ 1) (rt (.int 0))) (rt (.str "out")))) fun t => iteM t ((fun ρ => bd (popM ρ 2 (o2 ixD (vb ρ 1) (rt (.int 1)))) fun r => rt (.nx r.2)) ρ) ((fun ρ => bd (boolT (o2 eqD (o2 ixD (vb ρ 1) (rt (.int 0))) (rt (.str "move")))) fun t => iteM t ((seqS (fun ρ => bd (popM ρ 2 (o2 ixD (vb ρ 1) (rt (.int 1)))) fun r => rt (.nx (r.2.set 4 (.val r.1))))
  (insS 2 fun ρ => (consM (o2 ixD (vb ρ 1) (rt (.int 2))) (consM (vl ρ 4) (rt []))))) ρ) ((fun ρ => bd (boolT (o2 eqD (o2 ixD (vb ρ 1) (rt (.int 0))) (rt (.str "copy")))) fun t => iteM t ((insS 2 fun ρ => (consM (o2 ixD (vb ρ 1) (rt (.int 2))) (consM (tupM (consM (rt (.str "old")) (consM (o2 ixD (vb ρ 1) (rt (.int 1))) (consM (rt (.bl true)) (rt []))))) (rt [])))) ρ) ((setN 2 fun ρ => (lstM (appM (bd (vb ρ 2) starM) (appM (bd (bd (bd (range1M (consM (c1 lenD (consM (o2 ixD (vb ρ 1) (rt (.int 1))) (rt []))) (rt []))) fun ds => noX (lcM (fun d => bindD (.one 3) d (wipeE ρ [3])) (fun ρ => (rt true)) (fun ρ => (tupM (consM (rt (.str "joined")) (consM (vl ρ 3) (consM (rt (.bl false)) (rt [])))))) ds)) fun ds => rt (.lst ds)) starM) (rt []))))) ρ)) ρ)) ρ)) ρ))
  (fun ρ => (fun ρ => bd (vl ρ 2) fun d => rt (.ret d)) (frzS [2] ρ))))
def m_sources : List D → M D := fnM 5 b_sources
def b_standing : Sm.Env → M Out :=
  (fun ρ => bd (bd (boolT (o2 (inD false) (tupM (consM (vl ρ 1) (consM (vl ρ 2) (consM (rt (.bl false)) (rt []))))) (vb ρ 0))) fun t => iteM t (idxM (vb ρ 0) (tupM (consM (vl ρ 1) (consM (vl ρ 2) (consM (rt (.bl false)) (rt [])))))) (rt .non)) fun d => rt (.ret d))
def m_standing : List D → M D := fnM 3 b_standing
def b_pointing : Sm.Env → M Out :=
  (seqS (setV 4 fun ρ => (vl ρ 2))
  (seqS (fun ρ => bd (boolT (o2 eqD (vb ρ 0) (rt (.str "above")))) fun t => iteM t ((setV 4 fun ρ => (o2 subI (vb ρ 1) (vb ρ 2))) ρ) ((fun ρ => bd (boolT (o2 eqD (vb ρ 0) (rt (.str "below")))) fun t => iteM t ((setV 4 fun ρ => (o2 subI (vb ρ 2) (vb ρ 1))) ρ) ((fun ρ => bd (boolT (o2 eqD (vb ρ 0) (rt (.str "end")))) fun t => iteM t ((setV 4 fun ρ => (o2 subI (o2 subI (vb ρ 3) (rt (.int 1))) (vb ρ 2))) ρ) (nextS ρ)) ρ)) ρ))
  (seqS (setV 5 fun ρ => (bd (boolT (o2 (inD false) (vb ρ 0) (tupM (consM (rt (.str "above")) (consM (rt (.str "below")) (rt [])))))) fun t => iteM t (rt (.int 1)) (rt (.int 0))))
  (fun ρ => bd (bd (boolT (bd (consM (vl ρ 4) (consM (vl ρ 5) (consM (rt (.int 9)) (rt [])))) fun ds => callM 3 m_is_number ds)) fun t => iteM t (tupM (consM (vl ρ 0) (consM (vl ρ 4) (rt [])))) (rt .non)) fun d => rt (.ret d)))))
def m_pointing : List D → M D := fnM 6 b_pointing
def b_kept : Sm.Env → M Out :=
  (seqS (fun ρ => bd (orT (boolT (o2 eqD (o2 ixD (vb ρ 2) (rt (.int 0))) (rt (.str "label")))) (boolT (bd (vb ρ 4) fun x => op1 (isN false) x))) fun t => iteM t ((fun ρ => bd (vl ρ 2) fun d => rt (.ret d)) ρ) (nextS ρ))
  (seqS (setV 6 fun ρ => (o2 ixD (vb ρ 0) (kidxM KINDS_L (o2 ixD (vb ρ 2) (rt (.int 0))))))
  (seqS (fun ρ => bd (orT (boolT (o2 eqD (vb ρ 6) (rt (.str "raw")))) (andT (boolT (o2 eqD (vb ρ 6) (rt (.str "shift")))) (boolT (o2 eqD (o2 ixD (vb ρ 1) (rt (.int 0))) (rt (.str "move")))))) fun t => iteM t ((fun ρ => bd (vl ρ 2) fun d => rt (.ret d)) ρ) (nextS ρ))
  (seqS (setV 7 fun ρ => (bd (consM (o2 ixD (vb ρ 2) (rt (.int 0))) (consM (vl ρ 3) (consM (vl ρ 4) (consM (vl ρ 5) (rt []))))) fun ds => callM 4 m_pointing ds))
  (fun ρ => bd (bd (boolT (bd (vb ρ 7) fun x => op1 (isN false) x)) fun t => iteM t (vl ρ 2) (vl ρ 7)) fun d => rt (.ret d))))))
def m_kept : List D → M D := fnM 8 b_kept
def b_label_of : Sm.Env → M Out :=
  (fun ρ => bd (bd (boolT (o2 eqD (o2 ixD (vb ρ 2) (rt (.int 0))) (rt (.str "old")))) fun t => iteM t (o2 ixD (o2 ixD (vb ρ 0) (o2 ixD (vb ρ 2) (rt (.int 1)))) (rt (.int 0))) (o2 ixD (o2 ixD (o2 ixD (vb ρ 1) (rt (.int 1))) (o2 ixD (vb ρ 2) (rt (.int 1)))) (rt (.int 0)))) fun d => rt (.ret d))
def m_label_of : List D → M D := fnM 3 b_label_of
def b_edited : Sm.Env → M Out :=
  (seqS (parS [5, 6, 7] 3 fun ρ => (bd (bd (consM (vl ρ 1) (consM (vl ρ 2) (rt []))) fun ds => callM 2 m_sources ds) fun d => bd (bd (lstM (rt [])) fun ds => bd (bd (lstM (rt [])) fun ds => bd (rt []) fun ss => rt (.own ds :: ss)) fun ss => rt (.own ds :: ss)) fun ss => rt (.val d :: ss)))
  (seqS (fun ρ => bd (bd (vl ρ 5) fun d => bd (seqM d) fun ds => rt (enumL 0 ds)) fun ds => forM (.tup [8, 9]) (seqS (setN 10 fun ρ => (lstM (rt [])))
  (seqS (fun ρ => bd (boolT (bd (vb ρ 9) fun x => op1 (isN true) x)) fun t => iteM t ((seqS (setV 15 fun ρ => (bd (boolT (o2 eqD (o2 ixD (vb ρ 9) (rt (.int 0))) (rt (.str "old")))) fun t => iteM t (vl ρ 1) (o2 ixD (vb ρ 2) (rt (.int 1)))))
  (fun ρ => bd (bd (o2 ixD (o2 ixD (vb ρ 15) (o2 ixD (vb ρ 9) (rt (.int 1)))) (rt (.int 1))) seqM) fun ds => forM (.one 16) (seqS (setV 12 fun ρ => (bd (consM (vl ρ 15) (consM (o2 ixD (vb ρ 9) (rt (.int 1))) (consM (vl ρ 16) (rt [])))) fun ds => callM 3 m_meaning ds))
  (seqS (setV 13 fun ρ => (bd (boolT (bd (vb ρ 12) fun x => op1 (isN false) x)) fun t => iteM t (rt .non) (bd (consM (vl ρ 5) (consM (o2 ixD (vb ρ 9) (rt (.int 0))) (consM (vl ρ 12) (rt [])))) fun ds => callM 3 m_standing ds)))
  (seqS (appS 7 fun ρ => (tupM (consM (vl ρ 8) (consM (c1 lenD (consM (vb ρ 10) (rt []))) (consM (vl ρ 12) (consM (vl ρ 13) (rt [])))))))
  (appS 10 fun ρ => (bd (consM (vl ρ 0) (consM (vl ρ 2) (consM (vl ρ 16) (consM (vl ρ 8) (consM (vl ρ 13) (consM (c1 lenD (consM (vb ρ 5) (rt []))) (rt []))))))) fun ds => callM 6 m_kept ds))))) ds ρ)) ρ) (nextS ρ))
  (appS 6 fun ρ => (tupM (consM (bd (boolT (bd (vb ρ 9) fun x => op1 (isN false) x)) fun t => iteM t (rt .non) (bd (consM (vl ρ 1) (consM (vl ρ 2) (consM (vl ρ 9) (rt [])))) fun ds => callM 3 m_label_of ds)) (consM (c1 tupleD (consM (vb ρ 10) (rt []))) (rt []))))))) ds ρ)
  (seqS (setV 3 fun ρ => (c1 tupleD (consM (vb ρ 6) (rt []))))
  (seqS (setN 4 fun ρ => (lstM (rt [])))
  (seqS (fun ρ => (fun ρ => bd (bd (vl ρ 7) seqM) fun ds => forM (.tup [8, 11, 12, 13]) (seqS (setV 14 fun ρ => (bd (consM (vl ρ 3) (consM (vl ρ 8) (consM (o2 ixD (o2 ixD (o2 ixD (vb ρ 3) (vb ρ 8)) (rt (.int 1))) (vb ρ 11)) (rt [])))) fun ds => callM 3 m_meaning ds))
  (fun ρ => bd (andT (boolT (bd (vb ρ 12) fun x => op1 (isN true) x)) (orT (boolT (bd (vb ρ 13) fun x => op1 (isN false) x)) (boolT (o2 neD (vb ρ 14) (vb ρ 13))))) fun t => iteM t ((appS 4 fun ρ => (tupM (consM (vl ρ 8) (consM (vl ρ 11) (rt []))))) ρ) (nextS ρ))) ds ρ) (frzS [7] ρ))
  (fun ρ => (fun ρ => bd (tupM (consM (vl ρ 3) (consM (vl ρ 4) (rt [])))) fun d => rt (.ret d)) (frzS [4] ρ)))))))
def m_edited : List D → M D := fnM 17 b_edited
def b_Halves_shows : Sm.Env → M Out :=
  (seqS (fun ρ => bd (bd (consM (vl ρ 1) (consM (vl ρ 2) (consM (vl ρ 3) (rt [])))) fun ds => callM 3 m_check_gap ds) fun _ => rt (.nx ρ))
  (seqS (parS [4, 5] 2 fun ρ => (bd (bd (bd (vl ρ 0) (slotM 2 0)) fun d => bd (insM 0 d) fun d => noX (callM 1 m_Steps_rows [d])) fun d => bd (bd (bd (bd (vl ρ 0) (slotM 2 1)) fun d => bd (insM 0 d) fun d => noX (callM 1 m_Steps_rows [d])) fun d => bd (rt []) fun ss => rt (.val d :: ss)) fun ss => rt (.val d :: ss)))
  (seqS (fun ρ => bd (orT (boolT (o2 neD (c1 lenD (consM (vb ρ 4) (rt []))) (vb ρ 3))) (orT (boolT (o2 neD (o2 addA (c1 lenD (consM (vb ρ 4) (rt []))) (c1 lenD (consM (vb ρ 5) (rt [])))) (bd (vl ρ 2) fun d => bd (insM 0 d) fun d => bd (noX (callM 1 m_Steps_len [d])) lenI))) (orT (notT (boolT (bd (consM (vl ρ 4) (rt [])) fun ds => callM 1 m_are_whole ds))) (notT (boolT (bd (consM (vl ρ 5) (rt [])) fun ds => callM 1 m_are_whole ds)))))) fun t => iteM t ((fun ρ => bd (rt (.bl false)) fun d => rt (.ret d)) ρ) (nextS ρ))
  (fun ρ => bd (o2 eqD (bd (consM (bd (vl ρ 1) fun d => bd (insM 1 d) fun d => noX (callM 1 m_Way_words [d])) (consM (vl ρ 4) (consM (tupM (consM (rt (.str "join")) (consM (vl ρ 5) (rt [])))) (rt [])))) fun ds => callM 3 m_edited ds) (tupM (consM (bd (vl ρ 2) fun d => bd (insM 0 d) fun d => noX (callM 1 m_Steps_rows [d])) (consM (bd (lstM (rt [])) fun ds => rt (.lst ds)) (rt []))))) fun d => rt (.ret d)))))
def m_Halves_shows : List D → M D := fnM 6 b_Halves_shows
def b_Barred_shows : Sm.Env → M Out :=
  (seqS (fun ρ => bd (bd (consM (vl ρ 1) (consM (vl ρ 2) (consM (vl ρ 3) (rt [])))) fun ds => callM 3 m_check_gap ds) fun _ => rt (.nx ρ))
  (fun ρ => bd (andV (o2 (inD false) (bd (vl ρ 0) (slotM 3 0)) (bd (consM (bd (vl ρ 2) fun d => bd (insM 0 d) fun d => noX (callM 1 m_Steps_rows [d])) (rt [])) fun ds => callM 1 m_all_spots ds)) (bd (consM (bd (vl ρ 1) fun d => bd (insM 1 d) fun d => noX (callM 1 m_Way_words [d])) (consM (bd (vl ρ 2) fun d => bd (insM 0 d) fun d => noX (callM 1 m_Steps_rows [d])) (consM (vl ρ 3) (consM (bd (vl ρ 0) (slotM 3 0)) (rt []))))) fun ds => callM 4 m_does_bar ds)) fun d => rt (.ret d)))
def m_Barred_shows : List D → M D := fnM 4 b_Barred_shows
def b__law_does_bar : Sm.Env → M Out :=
  (seqS (fun ρ => bd (boolT (o2 (inD true) (vb ρ 3) (bd (consM (vl ρ 1) (rt [])) fun ds => callM 1 m__law_spots ds))) fun t => iteM t ((fun ρ => bd (rt (.bl false)) fun d => rt (.ret d)) ρ) (nextS ρ))
  (seqS (parS [5, 6] 2 fun ρ => (bd (o2 ixD (vb ρ 3) (rt (.int 0))) fun d => bd (bd (bd (consM (vl ρ 1) (consM (vl ρ 3) (rt []))) fun ds => callM 2 m__law_at ds) fun d => bd (rt []) fun ss => rt (.val d :: ss)) fun ss => rt (.val d :: ss)))
  (seqS (setV 4 fun ρ => (o2 ixD (o2 ixD (o2 ixD (o2 ixD (vb ρ 1) (vb ρ 5)) (rt (.int 1))) (o2 ixD (vb ρ 3) (rt (.int 1)))) (rt (.int 0))))
  (seqS (fun ρ => bd (orT (boolT (bd (vb ρ 6) fun x => op1 (isN false) x)) (boolT (o2 neD (o2 ltI (vb ρ 5) (vb ρ 2)) (o2 ltI (vb ρ 6) (vb ρ 2))))) fun t => iteM t ((fun ρ => bd (rt (.bl true)) fun d => rt (.ret d)) ρ) (nextS ρ))
  (seqS (fun ρ => bd (andT (boolT (o2 eqD (vb ρ 4) (rt (.str "end")))) (andT (boolT (o2 eqD (o2 ixD (vb ρ 0) (rt (.int 3))) (rt (.str "raw")))) (andT (boolT (o2 ltI (vb ρ 5) (vb ρ 2))) (boolT (o2 ltI (vb ρ 2) (c1 lenD (consM (vb ρ 1) (rt [])))))))) fun t => iteM t ((fun ρ => bd (rt (.bl true)) fun d => rt (.ret d)) ρ) (nextS ρ))
  (fun ρ => bd (andV (o2 eqD (vb ρ 4) (rt (.str "number"))) (andV (o2 eqD (o2 ixD (vb ρ 0) (rt (.int 0))) (rt (.str "raw"))) (andV (o2 geI (vb ρ 5) (vb ρ 2)) (o2 gtI (vb ρ 2) (rt (.int 0)))))) fun d => rt (.ret d)))))))
def m__law_does_bar : List D → M D := fnM 7 b__law_does_bar
def b__law_bent : Sm.Env → M Out :=
  (seqS (asgT (.tup [2, 3]) fun ρ => (o2 ixD (vb ρ 0) (rt (.int 0))))
  (seqS (setV 1 fun ρ => (tupM (consM (bd (boolT (o2 eqD (vb ρ 2) (rt (.str "a")))) fun t => iteM t (rt .non) (rt (.str "a"))) (consM (vl ρ 3) (rt [])))))
  (fun ρ => bd (bd (lstM (consM (vl ρ 0) (consM (o2 addA (tupM (consM (vl ρ 1) (rt []))) (bd (vb ρ 0) fun x => bd (bd (rt (.int 1)) asI) fun i => bd (rt none) fun j => sliceT x i j)) (consM (o2 addA (tupM (consM (tupM (consM (vl ρ 2) (consM (bd (vb ρ 3) fun x => bd (bd (rt (.int 1)) asI) fun i => bd (rt none) fun j => sliceT x i j) (rt [])))) (rt []))) (bd (vb ρ 0) fun x => bd (bd (rt (.int 1)) asI) fun i => bd (rt none) fun j => sliceT x i j)) (consM (bd (vb ρ 0) fun x => bd (rt none) fun i => bd (bd (negM (rt (.int 1))) asI) fun j => sliceT x i j) (consM (bd (vb ρ 0) revT) (rt []))))))) fun ds => rt (.lst ds)) fun d => rt (.ret d))))
def m__law_bent : List D → M D := fnM 4 b__law_bent
def b__law_are_halves : Sm.Env → M Out :=
  (seqS (fun ρ => bd (orT (boolT (o2 neD (c1 lenD (consM (vb ρ 3) (rt []))) (vb ρ 2))) (boolT (o2 neD (o2 addA (c1 lenD (consM (vb ρ 3) (rt []))) (c1 lenD (consM (vb ρ 4) (rt [])))) (c1 lenD (consM (vb ρ 1) (rt [])))))) fun t => iteM t ((fun ρ => bd (rt (.bl false)) fun d => rt (.ret d)) ρ) (nextS ρ))
  (seqS (fun ρ => bd (orT (notT (boolT (bd (consM (vl ρ 3) (rt [])) fun ds => callM 1 m__law_is_whole ds))) (notT (boolT (bd (consM (vl ρ 4) (rt [])) fun ds => callM 1 m__law_is_whole ds)))) fun t => iteM t ((fun ρ => bd (rt (.bl false)) fun d => rt (.ret d)) ρ) (nextS ρ))
  (fun ρ => bd (o2 eqD (bd (consM (vl ρ 0) (consM (vl ρ 3) (consM (tupM (consM (rt (.str "join")) (consM (vl ρ 4) (rt [])))) (rt [])))) fun ds => callM 3 m__law_edited ds) (tupM (consM (vl ρ 1) (consM (bd (lstM (rt [])) fun ds => rt (.lst ds)) (rt []))))) fun d => rt (.ret d))))
def m__law_are_halves : List D → M D := fnM 5 b__law_are_halves
def b__law_gap_right : Sm.Env → M Out :=
  (seqS (parS [7, 8] 2 fun ρ => (bd (bd (consM (vl ρ 2) (rt [])) fun ds => callM 1 m_Steps_init ds) fun d => bd (bd (bd (consM (vl ρ 0) (consM (vl ρ 2) (consM (vl ρ 3) (rt [])))) fun ds => callM 3 m__law_halves ds) fun d => bd (rt []) fun ss => rt (.val d :: ss)) fun ss => rt (.val d :: ss)))
  (seqS (setV 4 fun ρ => (bd (consM (vl ρ 1) (consM (vl ρ 7) (consM (vl ρ 3) (rt [])))) fun ds => callM 3 m_take_apart ds))
  (seqS (fun ρ => bd (orT (boolT (o2 neD (c1 (isoD 4) (consM (vb ρ 4) (consM (rt (.cls 2)) (rt [])))) (bd (vb ρ 8) fun x => op1 (isN true) x))) (boolT (o2 (isB true) (bd (vl ρ 4) (fun d => bif isK 2 d then (fun d => bd (insM 2 d) fun d => bd (consM (vl ρ 1) (consM (vl ρ 7) (consM (vl ρ 3) (rt [])))) fun ds => callM 4 m_Halves_shows (d :: ds)) d else (fun d => bd (insM 3 d) fun d => bd (consM (vl ρ 1) (consM (vl ρ 7) (consM (vl ρ 3) (rt [])))) fun ds => callM 4 m_Barred_shows (d :: ds)) d)) (rt (.bl true))))) fun t => iteM t ((fun ρ => bd (rt (.bl false)) fun d => rt (.ret d)) ρ) (nextS ρ))
  (seqS (fun ρ => bd (bd (bd (o2N addL (bd (consM (vl ρ 2) (rt [])) fun ds => callM 1 m__law_spots ds) (bd (lstM (consM (tupM (consM (rt (.int 9)) (consM (rt (.int 0)) (rt [])))) (consM (tupM (consM (rt (.int 0)) (consM (rt (.int 9)) (rt [])))) (consM (tupM (consM (rt (.int 0)) (consM (rt (.int 2)) (rt [])))) (rt []))))) fun ds => rt (.lst ds))) fun ds => rt (.lst ds)) seqM) fun ds => forM (.one 5) (fun ρ => bd (boolT (o2 neD (bd (bd (consM (vl ρ 5) (rt [])) fun ds => callM 1 m_Barred_init ds) fun d => bd (insM 3 d) fun d => bd (consM (vl ρ 1) (consM (vl ρ 7) (consM (vl ρ 3) (rt [])))) fun ds => callM 4 m_Barred_shows (d :: ds)) (bd (consM (vl ρ 0) (consM (vl ρ 2) (consM (vl ρ 3) (consM (vl ρ 5) (rt []))))) fun ds => callM 4 m__law_does_bar ds))) fun t => iteM t ((fun ρ => bd (rt (.bl false)) fun d => rt (.ret d)) ρ) (nextS ρ)) ds ρ)
  (seqS (fun ρ => bd (boolT (bd (vb ρ 8) fun x => op1 (isN false) x)) fun t => iteM t ((fun ρ => bd (notV (bd (bd (consM (bd (consM (bd (vb ρ 2) fun x => bd (rt none) fun i => bd (bd (vb ρ 3) asI) fun j => sliceT x i j) (rt [])) fun ds => callM 1 m_Steps_init ds) (consM (bd (consM (bd (vb ρ 2) fun x => bd (bd (vb ρ 3) asI) fun i => bd (rt none) fun j => sliceT x i j) (rt [])) fun ds => callM 1 m_Steps_init ds) (rt []))) fun ds => callM 2 m_Halves_init ds) fun d => bd (insM 2 d) fun d => bd (consM (vl ρ 1) (consM (vl ρ 7) (consM (vl ρ 3) (rt [])))) fun ds => callM 4 m_Halves_shows (d :: ds))) fun d => rt (.ret d)) ρ) (nextS ρ))
  (seqS (fun ρ => bd (orT (boolT (o2 neD (bd (bd (vl ρ 4) (slotM 2 0)) fun d => bd (insM 0 d) fun d => noX (callM 1 m_Steps_rows [d])) (o2 ixD (vb ρ 8) (rt (.int 0))))) (boolT (o2 neD (bd (bd (vl ρ 4) (slotM 2 1)) fun d => bd (insM 0 d) fun d => noX (callM 1 m_Steps_rows [d])) (o2 ixD (vb ρ 8) (rt (.int 1)))))) fun t => iteM t ((fun ρ => bd (rt (.bl false)) fun d => rt (.ret d)) ρ) (nextS ρ))
  (seqS (fun ρ => bd (bd (bd (boolT (o2 neD (o2 ixD (vb ρ 8) (rt (.int 0))) (tupM (rt [])))) fun t => iteM t (bd (consM (o2 ixD (vb ρ 8) (rt (.int 0))) (rt [])) fun ds => callM 1 m__law_bent ds) (bd (lstM (consM (tupM (rt [])) (rt []))) fun ds => rt (.lst ds))) seqM) fun ds => forM (.one 6) (fun ρ => bd (bd (bd (boolT (o2 neD (o2 ixD (vb ρ 8) (rt (.int 1))) (tupM (rt [])))) fun t => iteM t (bd (consM (o2 ixD (vb ρ 8) (rt (.int 1))) (rt [])) fun ds => callM 1 m__law_bent ds) (bd (lstM (consM (tupM (rt [])) (rt []))) fun ds => rt (.lst ds))) seqM) fun ds => forM (.one 9) (seqS (setV 10 fun ρ => (bd (consM (vl ρ 0) (consM (vl ρ 2) (consM (vl ρ 3) (consM (vl ρ 6) (consM (vl ρ 9) (rt [])))))) fun ds => callM 5 m__law_are_halves ds))
  (fun ρ => bd (boolT (o2 neD (bd (bd (consM (bd (consM (vl ρ 6) (rt [])) fun ds => callM 1 m_Steps_init ds) (consM (bd (consM (vl ρ 9) (rt [])) fun ds => callM 1 m_Steps_init ds) (rt []))) fun ds => callM 2 m_Halves_init ds) fun d => bd (insM 2 d) fun d => bd (consM (vl ρ 1) (consM (vl ρ 7) (consM (vl ρ 3) (rt [])))) fun ds => callM 4 m_Halves_shows (d :: ds)) (vb ρ 10))) fun t => iteM t ((fun ρ => bd (rt (.bl false)) fun d => rt (.ret d)) ρ) (nextS ρ))) ds ρ) ds ρ)
  (fun ρ => bd (notV (c1 anyD (consM (bd (bd (bd (bd (consM (vl ρ 2) (rt [])) fun ds => callM 1 m__law_spots ds) seqM) fun ds => noX (lcM (fun d => bindD (.one 5) d (wipeE ρ [5])) (fun ρ => (rt true)) (fun ρ => (bd (consM (vl ρ 0) (consM (vl ρ 2) (consM (vl ρ 3) (consM (vl ρ 5) (rt []))))) fun ds => callM 4 m__law_does_bar ds)) ds)) fun ds => rt (.lst ds)) (rt [])))) fun d => rt (.ret d)))))))))
def m__law_gap_right : List D → M D := fnM 11 b__law_gap_right
def b_law : Sm.Env → M Out :=
  (seqS (fun ρ => bd (lstM (consM (bd (bd (vb ρ 0) fun x => bd (rt none) fun i => bd (bd (rt (.int 63)) asI) fun j => sliceL x i j) fun ds => rt (.lst ds)) (consM (rt (.int 0)) (consM (rt (.int 0)) (rt []))))) fun ds => fun S => .ok (.nx (ρ.set 1 (.val (.ref S.length)))) (S ++ [.lst ds]))
  (seqS (fun ρ => bd (range1M (consM (rt (.int 2)) (rt []))) fun ds => forM (.one 2) (seqS (setV 5 fun ρ => (bd (consM (vl ρ 1) (rt [])) fun ds => callM 1 m__law_words ds))
  (seqS (asgT (.tup [7, 8]) fun ρ => (tupM (consM (bd (consM (vl ρ 1) (consM (vl ρ 5) (rt []))) fun ds => callM 2 m__law_list ds) (consM (bd (consM (vl ρ 5) (rt [])) fun ds => callM 1 m__law_way ds) (rt [])))))
  (seqS (setN 4 fun ρ => (bd (range1M (consM (o2 addA (c1 lenD (consM (vb ρ 7) (rt []))) (rt (.int 1))) (rt []))) fun ds => noX (lcM (fun d => bindD (.one 6) d (wipeE ρ [6])) (fun ρ => (boolT (bd (bd (consM (vl ρ 5) (consM (vl ρ 7) (consM (vl ρ 6) (rt [])))) fun ds => callM 3 m__law_halves ds) fun x => op1 (isN true) x))) (fun ρ => (vl ρ 6)) ds)))
  (seqS (fun ρ => bd (boolT (o2 neD (bd (consM (vl ρ 8) (consM (bd (consM (vl ρ 7) (rt [])) fun ds => callM 1 m_Steps_init ds) (rt []))) fun ds => callM 2 m_seams ds) (vb ρ 4))) fun t => iteM t ((fun ρ => bd (rt (.bl false)) fun d => rt (.ret d)) ρ) (nextS ρ))
  (seqS (fun ρ => bd (boolT (o2 neD (bd (bd (bd (bd (consM (vl ρ 8) (consM (bd (consM (vl ρ 7) (rt [])) fun ds => callM 1 m_Steps_init ds) (rt []))) fun ds => callM 2 m_blocks ds) seqM) fun ds => noX (lcM (fun d => bindD (.one 9) d (wipeE ρ [9])) (fun ρ => (rt true)) (fun ρ => (bd (vl ρ 9) fun d => bd (insM 0 d) fun d => noX (callM 1 m_Steps_rows [d]))) ds)) fun ds => rt (.lst ds)) (bd (consM (vl ρ 5) (consM (vl ρ 7) (rt []))) fun ds => callM 2 m__law_blocks ds))) fun t => iteM t ((fun ρ => bd (rt (.bl false)) fun d => rt (.ret d)) ρ) (nextS ρ))
  (fun ρ => bd (range1M (consM (o2 addA (c1 lenD (consM (vb ρ 7) (rt []))) (rt (.int 1))) (rt []))) fun ds => forM (.one 6) (fun ρ => bd (notT (boolT (bd (consM (vl ρ 5) (consM (vl ρ 8) (consM (vl ρ 7) (consM (vl ρ 6) (rt []))))) fun ds => callM 4 m__law_gap_right ds))) fun t => iteM t ((fun ρ => bd (rt (.bl false)) fun d => rt (.ret d)) ρ) (nextS ρ)) ds ρ)))))) ds ρ)
  (seqS (setV 3 fun ρ => (bd (consM (vl ρ 1) (consM (rt (.int 4)) (rt []))) fun ds => callM 2 m__law_rows ds))
  (seqS (setN 4 fun ρ => (bd (range1M (consM (o2 addA (c1 lenD (consM (vb ρ 3) (rt []))) (rt (.int 1))) (rt []))) fun ds => noX (lcM (fun d => bindD (.one 6) d (wipeE ρ [6])) (fun ρ => (boolT (bd (bd (consM (vl ρ 5) (consM (vl ρ 3) (consM (vl ρ 6) (rt [])))) fun ds => callM 3 m__law_halves ds) fun x => op1 (isN true) x))) (fun ρ => (vl ρ 6)) ds)))
  (fun ρ => bd (andV (o2 eqD (bd (consM (vl ρ 8) (consM (bd (consM (vl ρ 3) (rt [])) fun ds => callM 1 m_Steps_init ds) (rt []))) fun ds => callM 2 m_seams ds) (vb ρ 4)) (andV (o2 eqD (bd (consM (vl ρ 8) (consM (bd (consM (tupM (rt [])) (rt [])) fun ds => callM 1 m_Steps_init ds) (rt []))) fun ds => callM 2 m_seams ds) (bd (lstM (consM (rt (.int 0)) (rt []))) fun ds => rt (.lst ds))) (o2 eqD (bd (consM (vl ρ 8) (consM (bd (consM (tupM (rt [])) (rt [])) fun ds => callM 1 m_Steps_init ds) (rt []))) fun ds => callM 2 m_blocks ds) (bd (lstM (rt [])) fun ds => rt (.lst ds))))) fun d => rt (.ret d))))))
def m_law : List D → M D := fnM 10 b_law
/-- what the top has made -/
structure Fc (c : Cf) (w : World) (mg : Str → Option Value) : Prop where
  C : CF c 4
  g_Barred : mg "Barred" = some (.ref (c.cls 3))
  g_Halves : mg "Halves" = some (.ref (c.cls 2))
  g_KINDS : ∃ ad, mg "KINDS" = some (.ref ad) ∧ KTs c.K ad KINDS_L
  g_LETTERS : ∃ ad, mg "LETTERS" = some (.ref ad) ∧ KTs c.K ad LETTERS_L
  g_MOST_NUMBER : ∃ u, mg "MOST_NUMBER" = some u ∧ RelV (.int 9) u
  g_MOST_POINTERS : ∃ u, mg "MOST_POINTERS" = some u ∧ RelV (.int 2) u
  g_MOST_STEPS : ∃ u, mg "MOST_STEPS" = some u ∧ RelV (.int 6) u
  g_RANKS : ∃ ad, mg "RANKS" = some (.ref ad) ∧ KDt c w ad RANKS_L
  g_Steps : mg "Steps" = some (.ref (c.cls 0))
  g_Way : mg "Way" = some (.ref (c.cls 1))
  g_all : mg "all" = none
  g_any : mg "any" = none
  g_bool : mg "bool" = none
  g_enumerate : mg "enumerate" = none
  g_int : mg "int" = none
  g_isinstance : mg "isinstance" = none
  g_len : mg "len" = none
  g_list : mg "list" = none
  g_range : mg "range" = none
  s_Barred_spot : ∃ ad, SlX.Slot1 c.K (c.cls 3) "spot" ad 0
  s_Halves_first : ∃ ad, SlX.Slot1 c.K (c.cls 2) "first" ad 0
  s_Halves_second : ∃ ad, SlX.Slot1 c.K (c.cls 2) "second" ad 1
  s_Steps_line : ∃ ad, SlX.Slot1 c.K (c.cls 0) "line" ad 0
  s_Way_line : ∃ ad, SlX.Slot1 c.K (c.cls 1) "line" ad 0
  g_str : mg "str" = none
  g_tuple : mg "tuple" = none
  f__law_cell_at : ∃ ad fd, mg "_law_cell_at" = some (.ref ad) ∧ FunD c.K "_law_cell_at" "_law_cell_at" (defArgs (top 59)) (defBody (top 59)) (defScope (top 59)) [] [] ad fd
  f__law_draw : ∃ ad fd, mg "_law_draw" = some (.ref ad) ∧ FunD c.K "_law_draw" "_law_draw" (defArgs (top 60)) (defBody (top 60)) (defScope (top 60)) [] [] ad fd
  f__law_number : ∃ ad fd, mg "_law_number" = some (.ref ad) ∧ FunD c.K "_law_number" "_law_number" (defArgs (top 61)) (defBody (top 61)) (defScope (top 61)) [] [] ad fd
  f__law_next : ∃ ad fd, mg "_law_next" = some (.ref ad) ∧ FunD c.K "_law_next" "_law_next" (defArgs (top 62)) (defBody (top 62)) (defScope (top 62)) [] [] ad fd
  f__law_pick : ∃ ad fd, mg "_law_pick" = some (.ref ad) ∧ FunD c.K "_law_pick" "_law_pick" (defArgs (top 63)) (defBody (top 63)) (defScope (top 63)) [] [] ad fd
  f__law_words : ∃ ad fd, mg "_law_words" = some (.ref ad) ∧ FunD c.K "_law_words" "_law_words" (defArgs (top 74)) (defBody (top 74)) (defScope (top 74)) [] [] ad fd
  f__law_meant : ∃ ad fd, mg "_law_meant" = some (.ref ad) ∧ FunD c.K "_law_meant" "_law_meant" (defArgs (top 64)) (defBody (top 64)) (defScope (top 64)) [] [] ad fd
  f__law_healed : ∃ ad fd, mg "_law_healed" = some (.ref ad) ∧ FunD c.K "_law_healed" "_law_healed" (defArgs (top 70)) (defBody (top 70)) (defScope (top 70)) [] [] ad fd
  f__law_pointer : ∃ ad fd, mg "_law_pointer" = some (.ref ad) ∧ FunD c.K "_law_pointer" "_law_pointer" (defArgs (top 68)) (defBody (top 68)) (defScope (top 68)) [] [] ad fd
  f__law_rows : ∃ ad fd, mg "_law_rows" = some (.ref ad) ∧ FunD c.K "_law_rows" "_law_rows" (defArgs (top 69)) (defBody (top 69)) (defScope (top 69)) [] [] ad fd
  f__law_spots : ∃ ad fd, mg "_law_spots" = some (.ref ad) ∧ FunD c.K "_law_spots" "_law_spots" (defArgs (top 65)) (defBody (top 65)) (defScope (top 65)) [] [] ad fd
  f__law_at : ∃ ad fd, mg "_law_at" = some (.ref ad) ∧ FunD c.K "_law_at" "_law_at" (defArgs (top 66)) (defBody (top 66)) (defScope (top 66)) [] [] ad fd
  f__law_is_whole : ∃ ad fd, mg "_law_is_whole" = some (.ref ad) ∧ FunD c.K "_law_is_whole" "_law_is_whole" (defArgs (top 67)) (defBody (top 67)) (defScope (top 67)) [] [] ad fd
  f__law_sources : ∃ ad fd, mg "_law_sources" = some (.ref ad) ∧ FunD c.K "_law_sources" "_law_sources" (defArgs (top 71)) (defBody (top 71)) (defScope (top 71)) [] [] ad fd
  f__law_same_kind : ∃ ad fd, mg "_law_same_kind" = some (.ref ad) ∧ FunD c.K "_law_same_kind" "_law_same_kind" (defArgs (top 72)) (defBody (top 72)) (defScope (top 72)) [] [] ad fd
  f__law_edited : ∃ ad fd, mg "_law_edited" = some (.ref ad) ∧ FunD c.K "_law_edited" "_law_edited" (defArgs (top 73)) (defBody (top 73)) (defScope (top 73)) [] [] ad fd
  f__law_list : ∃ ad fd, mg "_law_list" = some (.ref ad) ∧ FunD c.K "_law_list" "_law_list" (defArgs (top 81)) (defBody (top 81)) (defScope (top 81)) [] [] ad fd
  f_is_word : ∃ ad fd, mg "is_word" = some (.ref ad) ∧ FunD c.K "is_word" "is_word" (defArgs (top 40)) (defBody (top 40)) (defScope (top 40)) [] [] ad fd
  f_Way_init : ∃ ad fd, Mk c.K (c.cls 1) ad ∧ FunD c.K "__init__" "Way.__init__" (defArgs (inClass (top 41) 1)) (defBody (inClass (top 41) 1)) (defScope (inClass (top 41) 1)) [] [("number", .str "raw"), ("above", .str "raw"), ("below", .str "raw"), ("end", .str "raw")] ad fd
  f__law_way : ∃ ad fd, mg "_law_way" = some (.ref ad) ∧ FunD c.K "_law_way" "_law_way" (defArgs (top 75)) (defBody (top 75)) (defScope (top 75)) [] [] ad fd
  f__law_origins : ∃ ad fd, mg "_law_origins" = some (.ref ad) ∧ FunD c.K "_law_origins" "_law_origins" (defArgs (top 76)) (defBody (top 76)) (defScope (top 76)) [] [] ad fd
  f__law_halves : ∃ ad fd, mg "_law_halves" = some (.ref ad) ∧ FunD c.K "_law_halves" "_law_halves" (defArgs (top 77)) (defBody (top 77)) (defScope (top 77)) [] [] ad fd
  f_check_way : ∃ ad fd, mg "check_way" = some (.ref ad) ∧ FunD c.K "check_way" "check_way" (defArgs (top 43)) (defBody (top 43)) (defScope (top 43)) [] [] ad fd
  f_check_steps : ∃ ad fd, mg "check_steps" = some (.ref ad) ∧ FunD c.K "check_steps" "check_steps" (defArgs (top 28)) (defBody (top 28)) (defScope (top 28)) [] [] ad fd
  f_Steps_len : ∃ ad fd, Meth c.K (c.cls 0) "__len__" ad ∧ FunD c.K "__len__" "Steps.__len__" (defArgs (inClass (top 27) 5)) (defBody (inClass (top 27) 5)) (defScope (inClass (top 27) 5)) [] [] ad fd
  f_all_spots : ∃ ad fd, mg "all_spots" = some (.ref ad) ∧ FunD c.K "all_spots" "all_spots" (defArgs (top 23)) (defBody (top 23)) (defScope (top 23)) [] [] ad fd
  f_first_with : ∃ ad fd, mg "first_with" = some (.ref ad) ∧ FunD c.K "first_with" "first_with" (defArgs (top 21)) (defBody (top 21)) (defScope (top 21)) [] [] ad fd
  f_meaning : ∃ ad fd, mg "meaning" = some (.ref ad) ∧ FunD c.K "meaning" "meaning" (defArgs (top 22)) (defBody (top 22)) (defScope (top 22)) [] [] ad fd
  f_meant_at : ∃ ad fd, mg "meant_at" = some (.ref ad) ∧ FunD c.K "meant_at" "meant_at" (defArgs (top 24)) (defBody (top 24)) (defScope (top 24)) [] [] ad fd
  f_does_bar : ∃ ad fd, mg "does_bar" = some (.ref ad) ∧ FunD c.K "does_bar" "does_bar" (defArgs (top 47)) (defBody (top 47)) (defScope (top 47)) [] [] ad fd
  f_bars_of : ∃ ad fd, mg "bars_of" = some (.ref ad) ∧ FunD c.K "bars_of" "bars_of" (defArgs (top 48)) (defBody (top 48)) (defScope (top 48)) [] [] ad fd
  f_Way_words : ∃ p ad fd, Prp c.K (c.cls 1) "words" p ad ∧ FunD c.K "words" "Way.words" (defArgs (inClass (top 41) 7)) (defBody (inClass (top 41) 7)) (defScope (inClass (top 41) 7)) [] [] ad fd
  f_Steps_rows : ∃ p ad fd, Prp c.K (c.cls 0) "rows" p ad ∧ FunD c.K "rows" "Steps.rows" (defArgs (inClass (top 27) 3)) (defBody (inClass (top 27) 3)) (defScope (inClass (top 27) 3)) [] [] ad fd
  f_seams : ∃ ad fd, mg "seams" = some (.ref ad) ∧ FunD c.K "seams" "seams" (defArgs (top 56)) (defBody (top 56)) (defScope (top 56)) [] [] ad fd
  f_is_label : ∃ ad fd, mg "is_label" = some (.ref ad) ∧ FunD c.K "is_label" "is_label" (defArgs (top 17)) (defBody (top 17)) (defScope (top 17)) [] [] ad fd
  f_is_number : ∃ ad fd, mg "is_number" = some (.ref ad) ∧ FunD c.K "is_number" "is_number" (defArgs (top 16)) (defBody (top 16)) (defScope (top 16)) [] [] ad fd
  f_is_pointer : ∃ ad fd, mg "is_pointer" = some (.ref ad) ∧ FunD c.K "is_pointer" "is_pointer" (defArgs (top 18)) (defBody (top 18)) (defScope (top 18)) [] [] ad fd
  f_is_step : ∃ ad fd, mg "is_step" = some (.ref ad) ∧ FunD c.K "is_step" "is_step" (defArgs (top 19)) (defBody (top 19)) (defScope (top 19)) [] [] ad fd
  f_Steps_init : ∃ ad fd, Mk c.K (c.cls 0) ad ∧ FunD c.K "__init__" "Steps.__init__" (defArgs (inClass (top 27) 1)) (defBody (inClass (top 27) 1)) (defScope (inClass (top 27) 1)) [] [] ad fd
  f_are_whole : ∃ ad fd, mg "are_whole" = some (.ref ad) ∧ FunD c.K "are_whole" "are_whole" (defArgs (top 25)) (defBody (top 25)) (defScope (top 25)) [] [] ad fd
  f_check_whole_by : ∃ ad fd, mg "check_whole_by" = some (.ref ad) ∧ FunD c.K "check_whole_by" "check_whole_by" (defArgs (top 46)) (defBody (top 46)) (defScope (top 46)) [] [] ad fd
  f_pointer_in_half : ∃ ad fd, mg "pointer_in_half" = some (.ref ad) ∧ FunD c.K "pointer_in_half" "pointer_in_half" (defArgs (top 49)) (defBody (top 49)) (defScope (top 49)) [] [] ad fd
  f_half_of : ∃ ad fd, mg "half_of" = some (.ref ad) ∧ FunD c.K "half_of" "half_of" (defArgs (top 50)) (defBody (top 50)) (defScope (top 50)) [] [] ad fd
  f_halves_of : ∃ ad fd, mg "halves_of" = some (.ref ad) ∧ FunD c.K "halves_of" "halves_of" (defArgs (top 51)) (defBody (top 51)) (defScope (top 51)) [] [] ad fd
  f_blocks_of : ∃ ad fd, mg "blocks_of" = some (.ref ad) ∧ FunD c.K "blocks_of" "blocks_of" (defArgs (top 54)) (defBody (top 54)) (defScope (top 54)) [] [] ad fd
  f_blocks : ∃ ad fd, mg "blocks" = some (.ref ad) ∧ FunD c.K "blocks" "blocks" (defArgs (top 57)) (defBody (top 57)) (defScope (top 57)) [] [] ad fd
  f__law_blocks : ∃ ad fd, mg "_law_blocks" = some (.ref ad) ∧ FunD c.K "_law_blocks" "_law_blocks" (defArgs (top 80)) (defBody (top 80)) (defScope (top 80)) [] [] ad fd
  f_check_gap : ∃ ad fd, mg "check_gap" = some (.ref ad) ∧ FunD c.K "check_gap" "check_gap" (defArgs (top 45)) (defBody (top 45)) (defScope (top 45)) [] [] ad fd
  f_Barred_init : ∃ ad fd, Mk c.K (c.cls 3) ad ∧ FunD c.K "__init__" "Barred.__init__" (defArgs (inClass (top 53) 1)) (defBody (inClass (top 53) 1)) (defScope (inClass (top 53) 1)) [] [] ad fd
  f_Halves_init : ∃ ad fd, Mk c.K (c.cls 2) ad ∧ FunD c.K "__init__" "Halves.__init__" (defArgs (inClass (top 52) 1)) (defBody (inClass (top 52) 1)) (defScope (inClass (top 52) 1)) [] [] ad fd
  f_take_apart : ∃ ad fd, mg "take_apart" = some (.ref ad) ∧ FunD c.K "take_apart" "take_apart" (defArgs (top 55)) (defBody (top 55)) (defScope (top 55)) [] [] ad fd
  f_sources : ∃ ad fd, mg "sources" = some (.ref ad) ∧ FunD c.K "sources" "sources" (defArgs (top 33)) (defBody (top 33)) (defScope (top 33)) [] [] ad fd
  f_standing : ∃ ad fd, mg "standing" = some (.ref ad) ∧ FunD c.K "standing" "standing" (defArgs (top 34)) (defBody (top 34)) (defScope (top 34)) [] [] ad fd
  f_pointing : ∃ ad fd, mg "pointing" = some (.ref ad) ∧ FunD c.K "pointing" "pointing" (defArgs (top 35)) (defBody (top 35)) (defScope (top 35)) [] [] ad fd
  f_kept : ∃ ad fd, mg "kept" = some (.ref ad) ∧ FunD c.K "kept" "kept" (defArgs (top 36)) (defBody (top 36)) (defScope (top 36)) [] [] ad fd
  f_label_of : ∃ ad fd, mg "label_of" = some (.ref ad) ∧ FunD c.K "label_of" "label_of" (defArgs (top 38)) (defBody (top 38)) (defScope (top 38)) [] [] ad fd
  f_edited : ∃ ad fd, mg "edited" = some (.ref ad) ∧ FunD c.K "edited" "edited" (defArgs (top 37)) (defBody (top 37)) (defScope (top 37)) [] [] ad fd
  f_Halves_shows : ∃ ad fd, Meth c.K (c.cls 2) "shows" ad ∧ FunD c.K "shows" "Halves.shows" (defArgs (inClass (top 52) 3)) (defBody (inClass (top 52) 3)) (defScope (inClass (top 52) 3)) [] [] ad fd
  f_Barred_shows : ∃ ad fd, Meth c.K (c.cls 3) "shows" ad ∧ FunD c.K "shows" "Barred.shows" (defArgs (inClass (top 53) 3)) (defBody (inClass (top 53) 3)) (defScope (inClass (top 53) 3)) [] [] ad fd
  f__law_does_bar : ∃ ad fd, mg "_law_does_bar" = some (.ref ad) ∧ FunD c.K "_law_does_bar" "_law_does_bar" (defArgs (top 79)) (defBody (top 79)) (defScope (top 79)) [] [] ad fd
  f__law_bent : ∃ ad fd, mg "_law_bent" = some (.ref ad) ∧ FunD c.K "_law_bent" "_law_bent" (defArgs (top 82)) (defBody (top 82)) (defScope (top 82)) [] [] ad fd
  f__law_are_halves : ∃ ad fd, mg "_law_are_halves" = some (.ref ad) ∧ FunD c.K "_law_are_halves" "_law_are_halves" (defArgs (top 78)) (defBody (top 78)) (defScope (top 78)) [] [] ad fd
  f__law_gap_right : ∃ ad fd, mg "_law_gap_right" = some (.ref ad) ∧ FunD c.K "_law_gap_right" "_law_gap_right" (defArgs (top 83)) (defBody (top 83)) (defScope (top 83)) [] [] ad fd
  f_law : ∃ ad fd, mg "law" = some (.ref ad) ∧ FunD c.K "law" "law" (defArgs (top 84)) (defBody (top 84)) (defScope (top 84)) [] [] ad fd
section
variable {c : Cf} {P : Program} {w : World} {mg : Str → Option Value} {base : Heap}
theorem sc__law_cell_at : FnScope ["_law_script", "_law_k"] ["_law_script", "_law_k"] (defScope (top 59)) := ⟨rfl, rfl, rfl, by decide +kernel, rfl, by decide +kernel, by decide +kernel⟩
theorem F__law_cell_at (T : Fc c w mg) : ∃ ad, mg "_law_cell_at" = some (.ref ad) ∧ Fn c P w mg base 1 ad 2 m__law_cell_at := by
  have h_len := T.g_len
  have hC := T.C
  obtain ⟨ad, fd, hmg, F⟩ := T.f__law_cell_at
  exact ⟨ad, hmg, fn_mk (k := 0) F sc__law_cell_at (F.bindsN fun _ _ _ _ _ _ us hl => match us, hl with | [_, _], _ => rfl) (fun cdv A outer s H E hr => by
    have sc := sc__law_cell_at
    have hu := hr.units
    have hu1 := hu_of hr
    exact (sss_cons (ss_if (st_lt (sb_var rfl (i := 1)) ((se_len (sab_cons (sb_var rfl (i := 0)) (sab_nil rfl)) h_len)).sb) (sss_one (ss_ret (se_ix (sb_var rfl (i := 0)) (sb_var rfl (i := 1))))) (sss_nil rfl))
    (sss_one (ss_ret (se_int rfl)))))⟩
theorem sc__law_draw : FnScope ["_law_cell", "_law_k", "_law_bound", "_law_primes"] ["_law_cell", "_law_k", "_law_bound"] (defScope (top 60)) := ⟨rfl, rfl, rfl, by decide +kernel, rfl, by decide +kernel, by decide +kernel⟩
theorem F__law_draw (T : Fc c w mg) : ∃ ad, mg "_law_draw" = some (.ref ad) ∧ Fn c P w mg base 1 ad 3 m__law_draw := by
  have h_int := T.g_int
  have hC := T.C
  obtain ⟨ad, fd, hmg, F⟩ := T.f__law_draw
  exact ⟨ad, hmg, fn_mk (k := 0) F sc__law_draw (F.bindsN fun _ _ _ _ _ _ us hl => match us, hl with | [_, _, _], _ => rfl) (fun cdv A outer s H E hr => by
    have sc := sc__law_draw
    have hu := hr.units
    have hu1 := hu_of hr
    exact (sss_cons (ss_set (i := 3) (se_tup (sa_cons (se_int rfl) (sa_cons (se_int rfl) (sa_cons (se_int rfl) (sa_cons (se_int rfl) (sa_cons (se_int rfl) (sa_cons (se_int rfl) (sa_cons (se_int rfl) (sa_cons (se_int rfl) (sa_nil rfl)))))))))) sc.nd)
    (sss_cons (ss_set (i := 3) (se_add (sb_var rfl (i := 3)) ((se_tup (sa_cons (se_int rfl) (sa_cons (se_int rfl) (sa_cons (se_int rfl) (sa_cons (se_int rfl) (sa_cons (se_int rfl) (sa_cons (se_int rfl) (sa_cons (se_int rfl) (sa_cons (se_int rfl) (sa_nil rfl))))))))))).sb) sc.nd)
    (sss_one (ss_ret (se_mod ((se_toInt (sab_cons ((se_mod ((se_toInt (sab_cons ((se_add ((se_mul (sb_var rfl (i := 0)) ((se_int rfl)).sb)).sb ((se_mul (sb_var rfl (i := 1)) ((se_int rfl)).sb)).sb)).sb (sab_nil rfl)) h_int)).sb ((se_ix (sb_var rfl (i := 3)) ((se_mod ((se_toInt (sab_cons (sb_var rfl (i := 1)) (sab_nil rfl)) h_int)).sb ((se_int rfl)).sb)).sb)).sb)).sb (sab_nil rfl)) h_int)).sb (sb_var rfl (i := 2))))))))⟩
theorem sc__law_number : FnScope ["_law_cell", "_law_k", "_law_bound", "_law_power", "_law_times", "_law_high", "_law_small"] ["_law_cell", "_law_k", "_law_bound"] (defScope (top 61)) := ⟨rfl, rfl, rfl, by decide +kernel, rfl, by decide +kernel, by decide +kernel⟩
theorem F__law_number (T : Fc c w mg) : ∃ ad, mg "_law_number" = some (.ref ad) ∧ Fn c P w mg base 2 ad 3 m__law_number := by
  have h_int := T.g_int
  have h_range := T.g_range
  have hC := T.C
  obtain ⟨_, hg__law_draw, G__law_draw⟩ := F__law_draw (P := P) (base := base) T
  obtain ⟨ad, fd, hmg, F⟩ := T.f__law_number
  exact ⟨ad, hmg, fn_mk (k := 1) F sc__law_number (F.bindsN fun _ _ _ _ _ _ us hl => match us, hl with | [_, _, _], _ => rfl) (fun cdv A outer s H E hr => by
    have sc := sc__law_number
    have hu := hr.units
    have hu1 := hu_of hr
    exact (sss_cons (ss_set (i := 3) (se_int rfl) sc.nd)
    (sss_cons (ss_for (t := (.one 4)) (si_range1 (sa_cons (se_mod ((se_toInt (sab_cons (sb_var rfl (i := 1)) (sab_nil rfl)) h_int)).sb ((se_int rfl)).sb) (sa_nil rfl)) h_range) (sg_one (i := 4) sc.nd) (sss_one (ss_set (i := 3) (se_mul (sb_var rfl (i := 3)) ((se_int rfl)).sb) sc.nd)) pa_def)
    (sss_cons (ss_set (i := 5) (se_div ((se_sub (sb_var rfl (i := 0)) ((se_pow ((se_int rfl)).sb ((se_int rfl)).sb)).sb)).sb (sb_var rfl (i := 3))) sc.nd)
    (sss_cons (ss_if (st_gt (sb_var rfl (i := 5)) ((se_int rfl)).sb) (sss_one (ss_ret (se_mod ((se_toInt (sab_cons ((se_mod ((se_toInt (sab_cons (sb_var rfl (i := 5)) (sab_nil rfl)) h_int)).sb ((se_int rfl)).sb)).sb (sab_nil rfl)) h_int)).sb (sb_var rfl (i := 2))))) (sss_nil rfl))
    (sss_cons (ss_set (i := 6) (se_mod ((se_toInt (sab_cons (sb_var rfl (i := 0)) (sab_nil rfl)) h_int)).sb ((se_int rfl)).sb) sc.nd)
    (sss_one (ss_ret (se_mod ((se_toInt (sab_cons ((se_call G__law_draw (hr.mono (by decide)) hg__law_draw tk_def (sa_cons (se_mul ((se_add (sb_var rfl (i := 6)) ((se_mul ((se_int rfl)).sb (sb_var rfl (i := 1)))).sb)).sb ((se_add ((se_add (sb_var rfl (i := 6)) ((se_mul ((se_int rfl)).sb (sb_var rfl (i := 1)))).sb)).sb ((se_int rfl)).sb)).sb) (sa_cons (se_add ((se_mod ((se_toInt (sab_cons (sb_var rfl (i := 1)) (sab_nil rfl)) h_int)).sb ((se_int rfl)).sb)).sb ((se_int rfl)).sb) (sa_cons (se_int rfl) (sa_nil rfl)))))).sb (sab_nil rfl)) h_int)).sb (sb_var rfl (i := 2)))))))))))⟩
theorem sc__law_next : FnScope ["_law_draw_here", "_law_bound", "_law_at_here", "_law_cell"] ["_law_draw_here", "_law_bound"] (defScope (top 62)) := ⟨rfl, rfl, rfl, by decide +kernel, rfl, by decide +kernel, by decide +kernel⟩
theorem F__law_next (T : Fc c w mg) : ∃ ad, mg "_law_next" = some (.ref ad) ∧ Fn c P w mg base 3 ad 2 m__law_next := by
  have h_int := T.g_int
  have hC := T.C
  obtain ⟨_, hg__law_cell_at, G__law_cell_at⟩ := F__law_cell_at (P := P) (base := base) T
  obtain ⟨_, hg__law_number, G__law_number⟩ := F__law_number (P := P) (base := base) T
  obtain ⟨ad, fd, hmg, F⟩ := T.f__law_next
  exact ⟨ad, hmg, fn_mk (k := 2) F sc__law_next (F.bindsN fun _ _ _ _ _ _ us hl => match us, hl with | [_, _], _ => rfl) (fun cdv A outer s H E hr => by
    have sc := sc__law_next
    have hu := hr.units
    have hu1 := hu_of hr
    exact (sss_cons (ss_setIx (i := 0) (se_add ((se_ix (sb_var rfl (i := 0)) ((se_int rfl)).sb)).sb ((se_int rfl)).sb) (se_int rfl))
    (sss_cons (ss_set (i := 2) (se_div ((se_ix (sb_var rfl (i := 0)) ((se_int rfl)).sb)).sb ((se_int rfl)).sb) sc.nd)
    (sss_cons (ss_set (i := 3) (se_add ((se_call G__law_cell_at (hr.mono (by decide)) hg__law_cell_at tk_def (sa_cons (se_ix (sb_var rfl (i := 0)) ((se_int rfl)).sb) (sa_cons (se_add ((se_ix (sb_var rfl (i := 0)) ((se_int rfl)).sb)).sb (sb_var rfl (i := 2))) (sa_nil rfl))))).sb ((se_mul ((se_int rfl)).sb (sb_var rfl (i := 2)))).sb) sc.nd)
    (sss_one (ss_ret (se_call G__law_number (hr.mono (by decide)) hg__law_number tk_def (sa_cons (se_var rfl (i := 3)) (sa_cons (se_add ((se_mod ((se_toInt (sab_cons ((se_ix (sb_var rfl (i := 0)) ((se_int rfl)).sb)).sb (sab_nil rfl)) h_int)).sb ((se_int rfl)).sb)).sb ((se_int rfl)).sb) (sa_cons (se_var rfl (i := 1)) (sa_nil rfl)))))))))))⟩
theorem sc__law_pick : FnScope ["_law_draw_here", "_law_things"] ["_law_draw_here", "_law_things"] (defScope (top 63)) := ⟨rfl, rfl, rfl, by decide +kernel, rfl, by decide +kernel, by decide +kernel⟩
theorem F__law_pick (T : Fc c w mg) : ∃ ad, mg "_law_pick" = some (.ref ad) ∧ Fn c P w mg base 4 ad 2 m__law_pick := by
  have h_len := T.g_len
  have hC := T.C
  obtain ⟨_, hg__law_next, G__law_next⟩ := F__law_next (P := P) (base := base) T
  obtain ⟨ad, fd, hmg, F⟩ := T.f__law_pick
  exact ⟨ad, hmg, fn_mk (k := 3) F sc__law_pick (F.bindsN fun _ _ _ _ _ _ us hl => match us, hl with | [_, _], _ => rfl) (fun cdv A outer s H E hr => by
    have sc := sc__law_pick
    have hu := hr.units
    have hu1 := hu_of hr
    exact (sss_one (ss_ret (se_ix (sb_var rfl (i := 1)) ((se_call G__law_next (hr.mono (by decide)) hg__law_next tk_def (sa_cons (se_var rfl (i := 0)) (sa_cons (se_len (sab_cons (sb_var rfl (i := 1)) (sab_nil rfl)) h_len) (sa_nil rfl))))).sb))))⟩
theorem sc__law_words : FnScope ["_law_draw_here", "_law_kind", "_law_turn"] ["_law_draw_here"] (defScope (top 74)) := ⟨rfl, rfl, rfl, by decide +kernel, rfl, by decide +kernel, by decide +kernel⟩
theorem F__law_words (T : Fc c w mg) : ∃ ad, mg "_law_words" = some (.ref ad) ∧ Fn c P w mg base 5 ad 1 m__law_words := by
  have h_range := T.g_range
  have h_tuple := T.g_tuple
  have hC := T.C
  obtain ⟨_, hg__law_next, G__law_next⟩ := F__law_next (P := P) (base := base) T
  obtain ⟨_, hg__law_pick, G__law_pick⟩ := F__law_pick (P := P) (base := base) T
  obtain ⟨ad, fd, hmg, F⟩ := T.f__law_words
  exact ⟨ad, hmg, fn_mk (k := 4) F sc__law_words (F.bindsN fun _ _ _ _ _ _ us hl => match us, hl with | [_], _ => rfl) (fun cdv A outer s H E hr => by
    have sc := sc__law_words
    have hu := hr.units
    have hu1 := hu_of hr
    exact (sss_cons (ss_set (i := 1) (se_call G__law_next (hr.mono (by decide)) hg__law_next tk_def (sa_cons (se_var rfl (i := 0)) (sa_cons (se_int rfl) (sa_nil rfl)))) sc.nd)
    (sss_cons (ss_if (st_eq hu (sb_var rfl (i := 1)) ((se_int rfl)).sb) (sss_one (ss_ret (se_mul ((se_tup (sa_cons (se_call G__law_pick (hr.mono (by decide)) hg__law_pick tk_def (sa_cons (se_var rfl (i := 0)) (sa_cons ((sn_lst (sa_cons (se_str rfl) (sa_cons (se_str rfl) (sa_cons (se_str rfl) (sa_nil rfl)))))).se (sa_nil rfl)))) (sa_nil rfl)))).sb ((se_int rfl)).sb))) (sss_nil rfl))
    (sss_one (ss_ret (se_tuple (sab_cons (((sn_lc (own := [("_law_turn", 2)]) (t := (.one 2)) ((si_range1 (sa_cons (se_int rfl) (sa_nil rfl)) h_range)).sic sc.nd (blkOk_by (by kernel_rfl)) (by decide) (fun s H C cl fp => (sg_one (i := 2) sc.nd)) (fun s H C cl fp => sts_nil) (fun s H C cl fp => (se_call G__law_pick (hr.mono (by decide)) hg__law_pick tk_in (sa_cons (se_var rfl (i := 0)) (sa_cons ((sn_lst (sa_cons (se_str rfl) (sa_cons (se_str rfl) (sa_cons (se_str rfl) (sa_cons (se_str rfl) (sa_nil rfl))))))).se (sa_nil rfl))))))).se).sb (sab_nil rfl)) h_tuple))))))⟩
theorem sc__law_meant : FnScope ["_law_rows_here", "_law_at_here", "_law_pointer_here", "_law_spot", "_law_kind", "_law_item", "_law_found"] ["_law_rows_here", "_law_at_here", "_law_pointer_here"] (defScope (top 64)) := ⟨rfl, rfl, rfl, by decide +kernel, rfl, by decide +kernel, by decide +kernel⟩
theorem F__law_meant (T : Fc c w mg) : ∃ ad, mg "_law_meant" = some (.ref ad) ∧ Fn c P w mg base 1 ad 3 m__law_meant := by
  have h_len := T.g_len
  have h_range := T.g_range
  have hC := T.C
  obtain ⟨ad, fd, hmg, F⟩ := T.f__law_meant
  exact ⟨ad, hmg, fn_mk (k := 0) F sc__law_meant (F.bindsN fun _ _ _ _ _ _ us hl => match us, hl with | [_, _, _], _ => rfl) (fun cdv A outer s H E hr => by
    have sc := sc__law_meant
    have hu := hr.units
    have hu1 := hu_of hr
    exact (sss_cons (ss_asgT (t := (.tup [4, 5])) (se_var rfl (i := 2)) (sg_tup (sgs_cons (i := 4) (sgs_cons (i := 5) sgs_nil sc.nd) sc.nd)))
    (sss_cons (ss_if (st_eq hu (sb_var rfl (i := 4)) ((se_str rfl)).sb) (sss_cons (ss_setLc (i := 6) (own := [("_law_spot", 3)]) (t := (.one 3)) ((si_range1 (sa_cons (se_len (sab_cons (sb_var rfl (i := 0)) (sab_nil rfl)) h_len) (sa_nil rfl)) h_range)).sic sc.nd (blkOk_by (by kernel_rfl)) (by decide) (fun s H C cl fp => (sg_one (i := 3) sc.nd)) (fun s H C cl fp => (sts_one (st_eq hu ((se_ix ((se_ix (sb_var rfl (i := 0)) (sb_var rfl (i := 3)))).sb ((se_int rfl)).sb)).sb (sb_var rfl (i := 5))))) (fun s H C cl fp => (se_var rfl (i := 3))))
    (sss_one (ss_ret (se_if (st_ne hu (sb_var rfl (i := 6)) (((sn_lst (sa_nil rfl))).se).sb) (se_ix (sb_var rfl (i := 6)) ((se_int rfl)).sb) (se_non rfl))))) (sss_nil rfl))
    (sss_cons (ss_set (i := 3) (se_var rfl (i := 5)) sc.nd)
    (sss_cons (ss_if (st_eq hu (sb_var rfl (i := 4)) ((se_str rfl)).sb) (sss_one (ss_set (i := 3) (se_sub (sb_var rfl (i := 1)) (sb_var rfl (i := 5))) sc.nd)) (sss_nil rfl))
    (sss_cons (ss_if (st_eq hu (sb_var rfl (i := 4)) ((se_str rfl)).sb) (sss_one (ss_set (i := 3) (se_add (sb_var rfl (i := 1)) (sb_var rfl (i := 5))) sc.nd)) (sss_nil rfl))
    (sss_cons (ss_if (st_eq hu (sb_var rfl (i := 4)) ((se_str rfl)).sb) (sss_one (ss_set (i := 3) (se_sub ((se_sub ((se_len (sab_cons (sb_var rfl (i := 0)) (sab_nil rfl)) h_len)).sb ((se_int rfl)).sb)).sb (sb_var rfl (i := 5))) sc.nd)) (sss_nil rfl))
    (sss_one (ss_ret (se_if (st_leLt ((se_int rfl)).sb (sb_var rfl (i := 3)) ((se_len (sab_cons (sb_var rfl (i := 0)) (sab_nil rfl)) h_len)).sb) (se_var rfl (i := 3)) (se_non rfl)))))))))))⟩
theorem sc__law_healed : FnScope ["_law_rows_here", "_law_found", "_law_at_here", "_law_pointers", "_law_pointer_here"] ["_law_rows_here"] (defScope (top 70)) := ⟨rfl, rfl, rfl, by decide +kernel, rfl, by decide +kernel, by decide +kernel⟩
theorem F__law_healed (T : Fc c w mg) : ∃ ad, mg "_law_healed" = some (.ref ad) ∧ Fn c P w mg base 2 ad 1 m__law_healed := by
  have h_len := T.g_len
  have h_range := T.g_range
  have h_tuple := T.g_tuple
  have hC := T.C
  obtain ⟨_, hg__law_meant, G__law_meant⟩ := F__law_meant (P := P) (base := base) T
  obtain ⟨ad, fd, hmg, F⟩ := T.f__law_healed
  exact ⟨ad, hmg, fn_mk (k := 1) F sc__law_healed (F.bindsN fun _ _ _ _ _ _ us hl => match us, hl with | [_], _ => rfl) (fun cdv A outer s H E hr => by
    have sc := sc__law_healed
    have hu := hr.units
    have hu1 := hu_of hr
    exact (sss_cons (ss_setN (i := 1) (sn_lst (sa_nil rfl)) sc.nd)
    (sss_cons (ss_for (t := (.one 2)) (si_range1 (sa_cons (se_len (sab_cons (sb_var rfl (i := 0)) (sab_nil rfl)) h_len) (sa_nil rfl)) h_range) (sg_one (i := 2) sc.nd) (sss_cons (ss_setLc (i := 3) (own := [("_law_pointer_here", 4)]) (t := (.one 4)) ((si_seq (se_ix ((se_ix (sb_var rfl (i := 0)) (sb_var rfl (i := 2)))).sb ((se_int rfl)).sb))).sic sc.nd (blkOk_by (by kernel_rfl)) (by decide) (fun s H C cl fp => (sg_one (i := 4) sc.nd)) (fun s H C cl fp => (sts_one (st_notN ((se_call G__law_meant (hr.mono (by decide)) hg__law_meant tk_in (sa_cons (se_var rfl (i := 0)) (sa_cons (se_var rfl (i := 2)) (sa_cons (se_var rfl (i := 4)) (sa_nil rfl)))))).sb))) (fun s H C cl fp => (se_var rfl (i := 4))))
    (sss_one (ss_append (i := 1) (se_tup (sa_cons (se_ix ((se_ix (sb_var rfl (i := 0)) (sb_var rfl (i := 2)))).sb ((se_int rfl)).sb) (sa_cons (se_tuple (sab_cons (sb_var rfl (i := 3)) (sab_nil rfl)) h_tuple) (sa_nil rfl))))))) pa_def)
    (sss_one (ss_ret (se_tuple (sab_cons (sb_var rfl (i := 1)) (sab_nil rfl)) h_tuple))))))⟩
theorem sc__law_pointer : FnScope ["_law_draw_here", "_law_at_here", "_law_many", "_law_kind", "_law_there"] ["_law_draw_here", "_law_at_here", "_law_many"] (defScope (top 68)) := ⟨rfl, rfl, rfl, by decide +kernel, rfl, by decide +kernel, by decide +kernel⟩
theorem F__law_pointer (T : Fc c w mg) : ∃ ad, mg "_law_pointer" = some (.ref ad) ∧ Fn c P w mg base 5 ad 3 m__law_pointer := by
  have h_list := T.g_list
  have hC := T.C
  obtain ⟨_, hg__law_next, G__law_next⟩ := F__law_next (P := P) (base := base) T
  obtain ⟨_, hg__law_pick, G__law_pick⟩ := F__law_pick (P := P) (base := base) T
  obtain ⟨ad, fd, hmg, F⟩ := T.f__law_pointer
  exact ⟨ad, hmg, fn_mk (k := 4) F sc__law_pointer (F.bindsN fun _ _ _ _ _ _ us hl => match us, hl with | [_, _, _], _ => rfl) (fun cdv A outer s H E hr => by
    have sc := sc__law_pointer
    have hu := hr.units
    have hu1 := hu_of hr
    exact (sss_cons (ss_set (i := 3) (se_call G__law_next (hr.mono (by decide)) hg__law_next tk_def (sa_cons (se_var rfl (i := 0)) (sa_cons (se_int rfl) (sa_nil rfl)))) sc.nd)
    (sss_cons (ss_if ((sw_or (st_eq hu (sb_var rfl (i := 3)) ((se_int rfl)).sb) (sw_or1 (st_eq hu (sb_var rfl (i := 3)) ((se_int rfl)).sb)))).st (sss_one (ss_ret (se_tup (sa_cons (se_str rfl) (sa_cons (se_call G__law_pick (hr.mono (by decide)) hg__law_pick tk_def (sa_cons (se_var rfl (i := 0)) (sa_cons ((sn_add (((sn_listA (sab_cons ((se_str rfl)).sb (sab_nil rfl)) h_list)).se).sb (((sn_listA (sab_cons ((se_str rfl)).sb (sab_nil rfl)) h_list)).se).sb)).se (sa_nil rfl)))) (sa_nil rfl)))))) (sss_nil rfl))
    (sss_cons (ss_set (i := 4) (se_call G__law_next (hr.mono (by decide)) hg__law_next tk_def (sa_cons (se_var rfl (i := 0)) (sa_cons (se_var rfl (i := 2)) (sa_nil rfl)))) sc.nd)
    (sss_cons (ss_if (st_eq hu (sb_var rfl (i := 3)) ((se_int rfl)).sb) (sss_one (ss_ret (se_tup (sa_cons (se_str rfl) (sa_cons (se_if (st_gt ((se_call G__law_next (hr.mono (by decide)) hg__law_next tk_def (sa_cons (se_var rfl (i := 0)) (sa_cons (se_int rfl) (sa_nil rfl))))).sb ((se_int rfl)).sb) (se_var rfl (i := 4)) (se_call G__law_next (hr.mono (by decide)) hg__law_next tk_def (sa_cons (se_var rfl (i := 0)) (sa_cons (se_int rfl) (sa_nil rfl))))) (sa_nil rfl)))))) (sss_nil rfl))
    (sss_cons (ss_if ((sw_and (st_eq hu (sb_var rfl (i := 3)) ((se_int rfl)).sb) (sw_and1 (st_lt (sb_var rfl (i := 4)) (sb_var rfl (i := 1)))))).st (sss_one (ss_ret (se_tup (sa_cons (se_str rfl) (sa_cons (se_sub (sb_var rfl (i := 1)) (sb_var rfl (i := 4))) (sa_nil rfl)))))) (sss_nil rfl))
    (sss_cons (ss_if ((sw_and (st_eq hu (sb_var rfl (i := 3)) ((se_int rfl)).sb) (sw_and1 (st_gt (sb_var rfl (i := 4)) (sb_var rfl (i := 1)))))).st (sss_one (ss_ret (se_tup (sa_cons (se_str rfl) (sa_cons (se_sub (sb_var rfl (i := 4)) (sb_var rfl (i := 1))) (sa_nil rfl)))))) (sss_nil rfl))
    (sss_one (ss_ret (se_tup (sa_cons (se_str rfl) (sa_cons (se_sub ((se_sub (sb_var rfl (i := 2)) ((se_int rfl)).sb)).sb (sb_var rfl (i := 4))) (sa_nil rfl)))))))))))))⟩
theorem sc__law_rows : FnScope ["_law_draw_here", "_law_bound", "_law_at_here", "_law_many", "_law_found", "_law_label", "_law_pointers", "_law_turn"] ["_law_draw_here", "_law_bound"] (defScope (top 69)) := ⟨rfl, rfl, rfl, by decide +kernel, rfl, by decide +kernel, by decide +kernel⟩
theorem F__law_rows (T : Fc c w mg) : ∃ ad, mg "_law_rows" = some (.ref ad) ∧ Fn c P w mg base 6 ad 2 m__law_rows := by
  have h_range := T.g_range
  have h_tuple := T.g_tuple
  have hC := T.C
  obtain ⟨_, hg__law_next, G__law_next⟩ := F__law_next (P := P) (base := base) T
  obtain ⟨_, hg__law_pick, G__law_pick⟩ := F__law_pick (P := P) (base := base) T
  obtain ⟨_, hg__law_pointer, G__law_pointer⟩ := F__law_pointer (P := P) (base := base) T
  obtain ⟨ad, fd, hmg, F⟩ := T.f__law_rows
  exact ⟨ad, hmg, fn_mk (k := 5) F sc__law_rows (F.bindsN fun _ _ _ _ _ _ us hl => match us, hl with | [_, _], _ => rfl) (fun cdv A outer s H E hr => by
    have sc := sc__law_rows
    have hu := hr.units
    have hu1 := hu_of hr
    exact (sss_cons (ss_parC (is := [3, 4]) (sam_val (se_add ((se_int rfl)).sb ((se_call G__law_next (hr.mono (by decide)) hg__law_next tk_def (sa_cons (se_var rfl (i := 0)) (sa_cons (se_var rfl (i := 1)) (sa_nil rfl))))).sb) (sam_own (sn_lst (sa_nil rfl)) (sam_nil rfl))) (sg_tup (sgs_cons (i := 3) (sgs_cons (i := 4) sgs_nil sc.nd) sc.nd)))
    (sss_cons (ss_for (t := (.one 2)) (si_range1 (sa_cons (se_var rfl (i := 3)) (sa_nil rfl)) h_range) (sg_one (i := 2) sc.nd) (sss_cons (ss_set (i := 5) (se_call G__law_pick (hr.mono (by decide)) hg__law_pick tk_def (sa_cons (se_var rfl (i := 0)) (sa_cons ((sn_lst (sa_cons (se_str rfl) (sa_cons (se_str rfl) (sa_cons (se_non rfl) (sa_cons (se_non rfl) (sa_cons (se_str rfl) (sa_nil rfl)))))))).se (sa_nil rfl)))) sc.nd)
    (sss_cons (ss_setLc (i := 6) (own := [("_law_turn", 7)]) (t := (.one 7)) ((si_range1 (sa_cons (se_call G__law_pick (hr.mono (by decide)) hg__law_pick tk_def (sa_cons (se_var rfl (i := 0)) (sa_cons ((sn_lst (sa_cons (se_int rfl) (sa_cons (se_int rfl) (sa_cons (se_int rfl) (sa_cons (se_int rfl) (sa_nil rfl))))))).se (sa_nil rfl)))) (sa_nil rfl)) h_range)).sic sc.nd (blkOk_by (by kernel_rfl)) (by decide) (fun s H C cl fp => (sg_one (i := 7) sc.nd)) (fun s H C cl fp => sts_nil) (fun s H C cl fp => (se_call G__law_pointer (hr.mono (by decide)) hg__law_pointer tk_in (sa_cons (se_var rfl (i := 0)) (sa_cons (se_var rfl (i := 2)) (sa_cons (se_var rfl (i := 3)) (sa_nil rfl)))))))
    (sss_one (ss_append (i := 4) (se_tup (sa_cons (se_var rfl (i := 5)) (sa_cons (se_tuple (sab_cons (sb_var rfl (i := 6)) (sab_nil rfl)) h_tuple) (sa_nil rfl)))))))) pa_def)
    (sss_one (ss_ret (se_tuple (sab_cons (sb_var rfl (i := 4)) (sab_nil rfl)) h_tuple))))))⟩
theorem sc__law_spots : FnScope ["_law_rows_here", "_law_found", "_law_at_here", "_law_place"] ["_law_rows_here"] (defScope (top 65)) := ⟨rfl, rfl, rfl, by decide +kernel, rfl, by decide +kernel, by decide +kernel⟩
theorem F__law_spots (T : Fc c w mg) : ∃ ad, mg "_law_spots" = some (.ref ad) ∧ Fn c P w mg base 1 ad 1 m__law_spots := by
  have h_len := T.g_len
  have h_range := T.g_range
  have hC := T.C
  obtain ⟨ad, fd, hmg, F⟩ := T.f__law_spots
  exact ⟨ad, hmg, fn_mk (k := 0) F sc__law_spots (F.bindsN fun _ _ _ _ _ _ us hl => match us, hl with | [_], _ => rfl) (fun cdv A outer s H E hr => by
    have sc := sc__law_spots
    have hu := hr.units
    have hu1 := hu_of hr
    exact (sss_cons (ss_setN (i := 1) (sn_lst (sa_nil rfl)) sc.nd)
    (sss_cons (ss_for (t := (.one 2)) (si_range1 (sa_cons (se_len (sab_cons (sb_var rfl (i := 0)) (sab_nil rfl)) h_len) (sa_nil rfl)) h_range) (sg_one (i := 2) sc.nd) (sss_one (ss_setN (i := 1) (sn_add (sb_var rfl (i := 1)) (((sn_lc (own := [("_law_place", 3)]) (t := (.one 3)) ((si_range1 (sa_cons (se_len (sab_cons ((se_ix ((se_ix (sb_var rfl (i := 0)) (sb_var rfl (i := 2)))).sb ((se_int rfl)).sb)).sb (sab_nil rfl)) h_len) (sa_nil rfl)) h_range)).sic sc.nd (blkOk_by (by kernel_rfl)) (by decide) (fun s H C cl fp => (sg_one (i := 3) sc.nd)) (fun s H C cl fp => sts_nil) (fun s H C cl fp => (se_tup (sa_cons (se_var rfl (i := 2)) (sa_cons (se_var rfl (i := 3)) (sa_nil rfl))))))).se).sb) sc.nd)) pa_def)
    (sss_one (ss_frz [1] (ss_ret (se_var rfl (i := 1))))))))⟩
theorem sc__law_at : FnScope ["_law_rows_here", "_law_spot"] ["_law_rows_here", "_law_spot"] (defScope (top 66)) := ⟨rfl, rfl, rfl, by decide +kernel, rfl, by decide +kernel, by decide +kernel⟩
theorem F__law_at (T : Fc c w mg) : ∃ ad, mg "_law_at" = some (.ref ad) ∧ Fn c P w mg base 2 ad 2 m__law_at := by
  have hC := T.C
  obtain ⟨_, hg__law_meant, G__law_meant⟩ := F__law_meant (P := P) (base := base) T
  obtain ⟨ad, fd, hmg, F⟩ := T.f__law_at
  exact ⟨ad, hmg, fn_mk (k := 1) F sc__law_at (F.bindsN fun _ _ _ _ _ _ us hl => match us, hl with | [_, _], _ => rfl) (fun cdv A outer s H E hr => by
    have sc := sc__law_at
    have hu := hr.units
    have hu1 := hu_of hr
    exact (sss_one (ss_ret (se_call G__law_meant (hr.mono (by decide)) hg__law_meant tk_def (sa_cons (se_var rfl (i := 0)) (sa_cons (se_ix (sb_var rfl (i := 1)) ((se_int rfl)).sb) (sa_cons (se_ix ((se_ix ((se_ix (sb_var rfl (i := 0)) ((se_ix (sb_var rfl (i := 1)) ((se_int rfl)).sb)).sb)).sb ((se_int rfl)).sb)).sb ((se_ix (sb_var rfl (i := 1)) ((se_int rfl)).sb)).sb) (sa_nil rfl))))))))⟩
theorem sc__law_is_whole : FnScope ["_law_rows_here", "_law_spot"] ["_law_rows_here"] (defScope (top 67)) := ⟨rfl, rfl, rfl, by decide +kernel, rfl, by decide +kernel, by decide +kernel⟩
theorem F__law_is_whole (T : Fc c w mg) : ∃ ad, mg "_law_is_whole" = some (.ref ad) ∧ Fn c P w mg base 3 ad 1 m__law_is_whole := by
  have h_all := T.g_all
  have hC := T.C
  obtain ⟨_, hg__law_spots, G__law_spots⟩ := F__law_spots (P := P) (base := base) T
  obtain ⟨_, hg__law_at, G__law_at⟩ := F__law_at (P := P) (base := base) T
  obtain ⟨ad, fd, hmg, F⟩ := T.f__law_is_whole
  exact ⟨ad, hmg, fn_mk (k := 2) F sc__law_is_whole (F.bindsN fun _ _ _ _ _ _ us hl => match us, hl with | [_], _ => rfl) (fun cdv A outer s H E hr => by
    have sc := sc__law_is_whole
    have hu := hr.units
    have hu1 := hu_of hr
    exact (sss_one (ss_ret (se_all (sab_cons (((sn_lc (own := [("_law_spot", 1)]) (t := (.one 1)) ((si_seq (se_call G__law_spots (hr.mono (by decide)) hg__law_spots tk_def (sa_cons (se_var rfl (i := 0)) (sa_nil rfl))))).sic sc.nd (blkOk_by (by kernel_rfl)) (by decide) (fun s H C cl fp => (sg_one (i := 1) sc.nd)) (fun s H C cl fp => sts_nil) (fun s H C cl fp => (se_notN ((se_call G__law_at (hr.mono (by decide)) hg__law_at tk_in (sa_cons (se_var rfl (i := 0)) (sa_cons (se_var rfl (i := 1)) (sa_nil rfl))))).sb)))).se).sb (sab_nil rfl)) h_all))))⟩
theorem sc__law_sources : FnScope ["_law_rows_here", "_law_edit", "_law_found", "_law_rest", "_law_at_here"] ["_law_rows_here", "_law_edit"] (defScope (top 71)) := ⟨rfl, rfl, rfl, by decide +kernel, rfl, by decide +kernel, by decide +kernel⟩
theorem F__law_sources (T : Fc c w mg) : ∃ ad, mg "_law_sources" = some (.ref ad) ∧ Fn c P w mg base 1 ad 2 m__law_sources := by
  have h_len := T.g_len
  have h_range := T.g_range
  have hC := T.C
  obtain ⟨ad, fd, hmg, F⟩ := T.f__law_sources
  exact ⟨ad, hmg, fn_mk (k := 0) F sc__law_sources (F.bindsN fun _ _ _ _ _ _ us hl => match us, hl with | [_, _], _ => rfl) (fun cdv A outer s H E hr => by
    have sc := sc__law_sources
    have hu := hr.units
    have hu1 := hu_of hr
    exact (sss_cons (ss_setLc (i := 2) (own := [("_law_at_here", 4)]) (t := (.one 4)) ((si_range1 (sa_cons (se_len (sab_cons (sb_var rfl (i := 0)) (sab_nil rfl)) h_len) (sa_nil rfl)) h_range)).sic sc.nd (blkOk_by (by kernel_rfl)) (by decide) (fun s H C cl fp => (sg_one (i := 4) sc.nd)) (fun s H C cl fp => sts_nil) (fun s H C cl fp => (se_tup (sa_cons (se_str rfl) (sa_cons (se_var rfl (i := 4)) (sa_cons (se_bl rfl) (sa_nil rfl)))))))
    (sss_cons (ss_if (st_eq hu ((se_ix (sb_var rfl (i := 1)) ((se_int rfl)).sb)).sb ((se_str rfl)).sb) (sss_one (ss_ret ((sn_add (((sn_add (((sn_slice (sb_var rfl (i := 2)) (so_none rfl) (so_some ((se_ix (sb_var rfl (i := 1)) ((se_int rfl)).sb)).sb))).se).sb (((sn_lst (sa_cons (se_non rfl) (sa_nil rfl)))).se).sb)).se).sb (((sn_slice (sb_var rfl (i := 2)) (so_some ((se_ix (sb_var rfl (i := 1)) ((se_int rfl)).sb)).sb) (so_none rfl))).se).sb)).se)) (sss_nil rfl))
    (sss_cons (ss_if (st_eq hu ((se_ix (sb_var rfl (i := 1)) ((se_int rfl)).sb)).sb ((se_str rfl)).sb) (sss_one (ss_ret ((sn_add (((sn_add (((sn_slice (sb_var rfl (i := 2)) (so_none rfl) (so_some ((se_ix (sb_var rfl (i := 1)) ((se_int rfl)).sb)).sb))).se).sb (((sn_lst (sa_cons (se_tup (sa_cons (se_str rfl) (sa_cons (se_ix (sb_var rfl (i := 1)) ((se_int rfl)).sb) (sa_cons (se_bl rfl) (sa_nil rfl))))) (sa_nil rfl)))).se).sb)).se).sb (((sn_slice (sb_var rfl (i := 2)) (so_some ((se_ix (sb_var rfl (i := 1)) ((se_int rfl)).sb)).sb) (so_none rfl))).se).sb)).se)) (sss_nil rfl))
    (sss_cons (ss_if (st_eq hu ((se_ix (sb_var rfl (i := 1)) ((se_int rfl)).sb)).sb ((se_str rfl)).sb) (sss_one (ss_ret ((sn_add (sb_var rfl (i := 2)) (((sn_lc (own := [("_law_at_here", 4)]) (t := (.one 4)) ((si_range1 (sa_cons (se_len (sab_cons ((se_ix (sb_var rfl (i := 1)) ((se_int rfl)).sb)).sb (sab_nil rfl)) h_len) (sa_nil rfl)) h_range)).sic sc.nd (blkOk_by (by kernel_rfl)) (by decide) (fun s H C cl fp => (sg_one (i := 4) sc.nd)) (fun s H C cl fp => sts_nil) (fun s H C cl fp => (se_tup (sa_cons (se_str rfl) (sa_cons (se_var rfl (i := 4)) (sa_cons (se_bl rfl) (sa_nil rfl)))))))).se).sb)).se)) (sss_nil rfl))
    (sss_cons (ss_setN (i := 3) (sn_add (((sn_slice (sb_var rfl (i := 2)) (so_none rfl) (so_some ((se_ix (sb_var rfl (i := 1)) ((se_int rfl)).sb)).sb))).se).sb (((sn_slice (sb_var rfl (i := 2)) (so_some ((se_add ((se_ix (sb_var rfl (i := 1)) ((se_int rfl)).sb)).sb ((se_int rfl)).sb)).sb) (so_none rfl))).se).sb) sc.nd)
    (sss_cons (ss_if (st_eq hu ((se_ix (sb_var rfl (i := 1)) ((se_int rfl)).sb)).sb ((se_str rfl)).sb) (sss_one (ss_frz [3] (ss_ret (se_var rfl (i := 3))))) (sss_nil rfl))
    (sss_one (ss_ret ((sn_add (((sn_add (((sn_slice (sb_var rfl (i := 3)) (so_none rfl) (so_some ((se_ix (sb_var rfl (i := 1)) ((se_int rfl)).sb)).sb))).se).sb (((sn_lst (sa_cons (se_ix (sb_var rfl (i := 2)) ((se_ix (sb_var rfl (i := 1)) ((se_int rfl)).sb)).sb) (sa_nil rfl)))).se).sb)).se).sb (((sn_slice (sb_var rfl (i := 3)) (so_some ((se_ix (sb_var rfl (i := 1)) ((se_int rfl)).sb)).sb) (so_none rfl))).se).sb)).se)))))))))⟩
theorem sc__law_same_kind : FnScope ["_law_kind", "_law_here", "_law_there", "_law_many"] ["_law_kind", "_law_here", "_law_there", "_law_many"] (defScope (top 72)) := ⟨rfl, rfl, rfl, by decide +kernel, rfl, by decide +kernel, by decide +kernel⟩
theorem F__law_same_kind (T : Fc c w mg) : ∃ ad, mg "_law_same_kind" = some (.ref ad) ∧ Fn c P w mg base 1 ad 4 m__law_same_kind := by
  have hC := T.C
  obtain ⟨ad, fd, hmg, F⟩ := T.f__law_same_kind
  exact ⟨ad, hmg, fn_mk (k := 0) F sc__law_same_kind (F.bindsN fun _ _ _ _ _ _ us hl => match us, hl with | [_, _, _, _], _ => rfl) (fun cdv A outer s H E hr => by
    have sc := sc__law_same_kind
    have hu := hr.units
    have hu1 := hu_of hr
    exact (sss_cons (ss_if (st_eq hu (sb_var rfl (i := 0)) ((se_str rfl)).sb) (sss_one (ss_ret (se_tup (sa_cons (se_var rfl (i := 0)) (sa_cons (se_var rfl (i := 2)) (sa_nil rfl)))))) (sss_nil rfl))
    (sss_cons (ss_if (st_eq hu (sb_var rfl (i := 0)) ((se_str rfl)).sb) (sss_one (ss_ret (se_tup (sa_cons (se_var rfl (i := 0)) (sa_cons (se_sub ((se_sub (sb_var rfl (i := 3)) ((se_int rfl)).sb)).sb (sb_var rfl (i := 2))) (sa_nil rfl)))))) (sss_nil rfl))
    (sss_cons (ss_if (st_eq hu (sb_var rfl (i := 0)) ((se_str rfl)).sb) (sss_one (ss_ret (se_if (st_lt (sb_var rfl (i := 2)) (sb_var rfl (i := 1))) (se_tup (sa_cons (se_var rfl (i := 0)) (sa_cons (se_sub (sb_var rfl (i := 1)) (sb_var rfl (i := 2))) (sa_nil rfl)))) (se_non rfl)))) (sss_nil rfl))
    (sss_one (ss_ret (se_if (st_gt (sb_var rfl (i := 2)) (sb_var rfl (i := 1))) (se_tup (sa_cons (se_var rfl (i := 0)) (sa_cons (se_sub (sb_var rfl (i := 2)) (sb_var rfl (i := 1))) (sa_nil rfl)))) (se_non rfl))))))))⟩
theorem sc__law_edited : FnScope ["_law_words_here", "_law_rows_here", "_law_edit", "_law_here", "_law_lost", "_law_found", "_law_later", "_law_due", "_law_lines", "_law_pointer_here", "_law_place", "_law_meant_here", "_law_now", "_law_source", "_law_pointers", "_law_spot", "_law_late", "_law_kinds", "_law_word"] ["_law_words_here", "_law_rows_here", "_law_edit"] (defScope (top 73)) := ⟨rfl, rfl, rfl, by decide +kernel, rfl, by decide +kernel, by decide +kernel⟩
theorem F__law_edited (T : Fc c w mg) : ∃ ad, mg "_law_edited" = some (.ref ad) ∧ Fn c P w mg base 3 ad 3 m__law_edited := by
  have h_len := T.g_len
  have h_range := T.g_range
  have h_tuple := T.g_tuple
  have hC := T.C
  obtain ⟨_, hg__law_sources, G__law_sources⟩ := F__law_sources (P := P) (base := base) T
  obtain ⟨_, hg__law_meant, G__law_meant⟩ := F__law_meant (P := P) (base := base) T
  obtain ⟨_, hg__law_same_kind, G__law_same_kind⟩ := F__law_same_kind (P := P) (base := base) T
  obtain ⟨_, hg__law_at, G__law_at⟩ := F__law_at (P := P) (base := base) T
  obtain ⟨ad, fd, hmg, F⟩ := T.f__law_edited
  exact ⟨ad, hmg, fn_mk (k := 2) F sc__law_edited (F.bindsN fun _ _ _ _ _ _ us hl => match us, hl with | [_, _, _], _ => rfl) (fun cdv A outer s H E hr => by
    have sc := sc__law_edited
    have hu := hr.units
    have hu1 := hu_of hr
    exact (sss_cons (ss_parS3 (i := 5) (j := 6) (l := 7) (sam_val (se_call G__law_sources (hr.mono (by decide)) hg__law_sources tk_def (sa_cons (se_var rfl (i := 1)) (sa_cons (se_var rfl (i := 2)) (sa_nil rfl)))) (sam_own (sn_lst (sa_nil rfl)) (sam_own (sn_lst (sa_nil rfl)) (sam_nil rfl)))) sc.nd)
    (sss_cons (ss_for (t := (.one 3)) (si_range1 (sa_cons (se_len (sab_cons (sb_var rfl (i := 5)) (sab_nil rfl)) h_len) (sa_nil rfl)) h_range) (sg_one (i := 3) sc.nd) (sss_cons (ss_parS (i := 13) (j := 14) (sam_val (se_ix (sb_var rfl (i := 5)) (sb_var rfl (i := 3))) (sam_own (sn_lst (sa_nil rfl)) (sam_nil rfl))) sc.nd)
    (sss_cons (ss_set (i := 8) (se_if ((sw_or (st_isN (sb_var rfl (i := 13))) (sw_or1 (st_eq hu ((se_ix (sb_var rfl (i := 13)) ((se_int rfl)).sb)).sb ((se_str rfl)).sb)))).st (se_var rfl (i := 1)) (se_ix (sb_var rfl (i := 2)) ((se_int rfl)).sb)) sc.nd)
    (sss_cons (ss_for (t := (.one 9)) (si_seq (se_if (st_isN (sb_var rfl (i := 13))) (se_tup (sa_nil rfl)) (se_ix ((se_ix (sb_var rfl (i := 8)) ((se_ix (sb_var rfl (i := 13)) ((se_int rfl)).sb)).sb)).sb ((se_int rfl)).sb))) (sg_one (i := 9) sc.nd) (sss_cons (ss_set (i := 11) (se_call G__law_meant (hr.mono (by decide)) hg__law_meant tk_def (sa_cons (se_var rfl (i := 8)) (sa_cons (se_ix (sb_var rfl (i := 13)) ((se_int rfl)).sb) (sa_cons (se_var rfl (i := 9)) (sa_nil rfl))))) sc.nd)
    (sss_cons (ss_set (i := 15) (se_if (st_isN (sb_var rfl (i := 11))) (se_non rfl) (se_tup (sa_cons (se_ix (sb_var rfl (i := 13)) ((se_int rfl)).sb) (sa_cons (se_var rfl (i := 11)) (sa_cons (se_bl rfl) (sa_nil rfl)))))) sc.nd)
    (sss_cons (ss_set (i := 12) (se_if ((sw_and (st_in hu (sb_var rfl (i := 15)) (sb_var rfl (i := 5))) (sw_and1 (st_notN (sb_var rfl (i := 15)))))).st (se_index (sb_var rfl (i := 5)) (se_var rfl (i := 15)) hu) (se_non rfl)) sc.nd)
    (sss_cons (ss_append (i := 7) (se_tup (sa_cons (se_var rfl (i := 3)) (sa_cons (se_len (sab_cons (sb_var rfl (i := 14)) (sab_nil rfl)) h_len) (sa_cons (se_var rfl (i := 11)) (sa_cons (se_var rfl (i := 12)) (sa_nil rfl)))))))
    (sss_cons (ss_parS (i := 17) (j := 18) (sam_own (sn_lst (sa_cons (se_str rfl) (sa_cons (se_str rfl) (sa_cons (se_str rfl) (sa_cons (se_str rfl) (sa_nil rfl)))))) (sam_val (se_str rfl) (sam_nil rfl))) sc.nd)
    (sss_cons (ss_if (st_ne hu ((se_ix (sb_var rfl (i := 9)) ((se_int rfl)).sb)).sb ((se_str rfl)).sb) (sss_one (ss_set (i := 18) (se_ix (sb_var rfl (i := 0)) ((se_index (sb_var rfl (i := 17)) (se_ix (sb_var rfl (i := 9)) ((se_int rfl)).sb) hu)).sb) sc.nd)) (sss_nil rfl))
    (sss_cons (ss_set (i := 16) (se_non rfl) sc.nd)
    (sss_cons (ss_if ((sw_and (st_notN (sb_var rfl (i := 12))) (sw_and1 (st_ne hu ((se_ix (sb_var rfl (i := 9)) ((se_int rfl)).sb)).sb ((se_str rfl)).sb)))).st (sss_one (ss_set (i := 16) (se_call G__law_same_kind (hr.mono (by decide)) hg__law_same_kind tk_def (sa_cons (se_ix (sb_var rfl (i := 9)) ((se_int rfl)).sb) (sa_cons (se_var rfl (i := 3)) (sa_cons (se_var rfl (i := 12)) (sa_cons (se_len (sab_cons (sb_var rfl (i := 5)) (sab_nil rfl)) h_len) (sa_nil rfl)))))) sc.nd)) (sss_nil rfl))
    (sss_cons (ss_if ((sw_or (st_isN (sb_var rfl (i := 16))) (sw_or (st_eq hu (sb_var rfl (i := 18)) ((se_str rfl)).sb) (sw_or1 ((sw_and (st_eq hu (sb_var rfl (i := 18)) ((se_str rfl)).sb) (sw_and1 (st_eq hu ((se_ix (sb_var rfl (i := 2)) ((se_int rfl)).sb)).sb ((se_str rfl)).sb)))).st)))).st (sss_one (ss_set (i := 16) (se_var rfl (i := 9)) sc.nd)) (sss_nil rfl))
    (sss_one (ss_append (i := 14) (se_var rfl (i := 16))))))))))))) pa_def)
    (sss_one (ss_append (i := 6) (se_tup (sa_cons (se_if (st_isN (sb_var rfl (i := 13))) (se_non rfl) (se_ix ((se_ix (sb_var rfl (i := 8)) ((se_ix (sb_var rfl (i := 13)) ((se_int rfl)).sb)).sb)).sb ((se_int rfl)).sb)) (sa_cons (se_tuple (sab_cons (sb_var rfl (i := 14)) (sab_nil rfl)) h_tuple) (sa_nil rfl))))))))) pa_def)
    (sss_cons (ss_setN (i := 4) (sn_lst (sa_nil rfl)) sc.nd)
    (sss_cons (ss_frz [7] (ss_for (t := (.tup [3, 10, 11, 12])) (si_seq (se_var rfl (i := 7))) (sg_tup (sgs_cons (i := 3) (sgs_cons (i := 10) (sgs_cons (i := 11) (sgs_cons (i := 12) sgs_nil sc.nd) sc.nd) sc.nd) sc.nd)) (sss_one (ss_frz [6] (ss_if ((sw_and (st_notN (sb_var rfl (i := 11))) (sw_and1 ((sw_or (st_isN (sb_var rfl (i := 12))) (sw_or1 (st_ne hu ((se_call G__law_at (hr.mono (by decide)) hg__law_at tk_def (sa_cons (se_var rfl (i := 6)) (sa_cons (se_tup (sa_cons (se_var rfl (i := 3)) (sa_cons (se_var rfl (i := 10)) (sa_nil rfl)))) (sa_nil rfl))))).sb (sb_var rfl (i := 12)))))).st))).st (sss_one (ss_append (i := 4) (se_tup (sa_cons (se_var rfl (i := 3)) (sa_cons (se_var rfl (i := 10)) (sa_nil rfl)))))) (sss_nil rfl)))) pa_def))
    (sss_one (ss_frz [4] (ss_ret (se_tup (sa_cons (se_tuple (sab_cons (sb_var rfl (i := 6)) (sab_nil rfl)) h_tuple) (sa_cons (se_var rfl (i := 4)) (sa_nil rfl))))))))))))⟩
theorem sc__law_list : FnScope ["_law_draw_here", "_law_words_here", "_law_rows_here", "_law_other", "_law_late", "_law_lost"] ["_law_draw_here", "_law_words_here"] (defScope (top 81)) := ⟨rfl, rfl, rfl, by decide +kernel, rfl, by decide +kernel, by decide +kernel⟩
theorem F__law_list (T : Fc c w mg) : ∃ ad, mg "_law_list" = some (.ref ad) ∧ Fn c P w mg base 7 ad 2 m__law_list := by
  have hC := T.C
  obtain ⟨_, hg__law_healed, G__law_healed⟩ := F__law_healed (P := P) (base := base) T
  obtain ⟨_, hg__law_rows, G__law_rows⟩ := F__law_rows (P := P) (base := base) T
  obtain ⟨_, hg__law_is_whole, G__law_is_whole⟩ := F__law_is_whole (P := P) (base := base) T
  obtain ⟨_, hg__law_edited, G__law_edited⟩ := F__law_edited (P := P) (base := base) T
  obtain ⟨_, hg__law_next, G__law_next⟩ := F__law_next (P := P) (base := base) T
  obtain ⟨ad, fd, hmg, F⟩ := T.f__law_list
  exact ⟨ad, hmg, fn_mk (k := 6) F sc__law_list (F.bindsN fun _ _ _ _ _ _ us hl => match us, hl with | [_, _], _ => rfl) (fun cdv A outer s H E hr => by
    have sc := sc__law_list
    have hu := hr.units
    have hu1 := hu_of hr
    exact (sss_cons (ss_set (i := 2) (se_call G__law_healed (hr.mono (by decide)) hg__law_healed tk_def (sa_cons (se_call G__law_rows (hr.mono (by decide)) hg__law_rows tk_def (sa_cons (se_var rfl (i := 0)) (sa_cons (se_int rfl) (sa_nil rfl)))) (sa_nil rfl))) sc.nd)
    (sss_cons (ss_while 40 (st_not (st_val (se_call G__law_is_whole (hr.mono (by decide)) hg__law_is_whole tk_def (sa_cons (se_var rfl (i := 2)) (sa_nil rfl))))) (sss_one (ss_set (i := 2) (se_call G__law_healed (hr.mono (by decide)) hg__law_healed tk_def (sa_cons (se_var rfl (i := 2)) (sa_nil rfl))) sc.nd)) pa_def)
    (sss_cons (ss_set (i := 3) (se_call G__law_healed (hr.mono (by decide)) hg__law_healed tk_def (sa_cons (se_call G__law_rows (hr.mono (by decide)) hg__law_rows tk_def (sa_cons (se_var rfl (i := 0)) (sa_cons (se_int rfl) (sa_nil rfl)))) (sa_nil rfl))) sc.nd)
    (sss_cons (ss_while 40 (st_not (st_val (se_call G__law_is_whole (hr.mono (by decide)) hg__law_is_whole tk_def (sa_cons (se_var rfl (i := 3)) (sa_nil rfl))))) (sss_one (ss_set (i := 3) (se_call G__law_healed (hr.mono (by decide)) hg__law_healed tk_def (sa_cons (se_var rfl (i := 3)) (sa_nil rfl))) sc.nd)) pa_def)
    (sss_cons (ss_asgT (t := (.tup [4, 5])) (se_call G__law_edited (hr.mono (by decide)) hg__law_edited tk_def (sa_cons (se_var rfl (i := 1)) (sa_cons (se_var rfl (i := 2)) (sa_cons (se_tup (sa_cons (se_str rfl) (sa_cons (se_var rfl (i := 3)) (sa_nil rfl)))) (sa_nil rfl))))) (sg_tup (sgs_cons (i := 4) (sgs_cons (i := 5) sgs_nil sc.nd) sc.nd)))
    (sss_one (ss_ret (se_if ((sw_and (st_eq hu (sb_var rfl (i := 5)) (((sn_lst (sa_nil rfl))).se).sb) (sw_and1 (st_gt ((se_call G__law_next (hr.mono (by decide)) hg__law_next tk_def (sa_cons (se_var rfl (i := 0)) (sa_cons (se_int rfl) (sa_nil rfl))))).sb ((se_int rfl)).sb)))).st (se_var rfl (i := 4)) (se_var rfl (i := 2)))))))))))⟩
theorem sc_is_word : FnScope ["thing"] ["thing"] (defScope (top 40)) := ⟨rfl, rfl, rfl, by decide +kernel, rfl, by decide +kernel, by decide +kernel⟩
theorem F_is_word (T : Fc c w mg) : ∃ ad, mg "is_word" = some (.ref ad) ∧ Fn c P w mg base 1 ad 1 m_is_word := by
  have h_str := T.g_str
  have h_isinstance := T.g_isinstance
  obtain ⟨_, h_RANKS⟩ := T.g_RANKS
  have hC := T.C
  obtain ⟨ad, fd, hmg, F⟩ := T.f_is_word
  exact ⟨ad, hmg, fn_mk (k := 0) F sc_is_word (F.bindsN fun _ _ _ _ _ _ us hl => match us, hl with | [_], _ => rfl) (fun cdv A outer s H E hr => by
    have sc := sc_is_word
    have hu := hr.units
    have hu1 := hu_of hr
    exact (sss_one (ss_ret (se_and (se_isi (sab_cons (sb_var rfl (i := 0)) (sab_cons ((se_bltn (v := .ty "str") rfl (by rfl) h_str (by decide +kernel) rfl (fun _ => .ty _))).sb (sab_nil rfl))) h_isinstance) (se_and1 (se_inKD h_RANKS.2 (by rfl) h_RANKS.1 (se_var rfl (i := 0))))))))⟩
theorem sc_Way_init : FnScope ["self", "number", "above", "below", "end", "one"] ["self", "number", "above", "below", "end"] (defScope (inClass (top 41) 1)) := ⟨rfl, rfl, rfl, by decide +kernel, rfl, by decide +kernel, by decide +kernel⟩
theorem F_Way_init (T : Fc c w mg) : ∃ ad fd, Mk c.K (c.cls 1) ad ∧ FnOk P w c.K mg base (L2.CX P w) 2 ad fd ["self", "number", "above", "below", "end"] (PromI c 4 1 m_Way_init) ∧ KBn c.K fd ["self", "number", "above", "below", "end"] 1 ["number", "above", "below", "end"] (fun us ws => us ++ ws) (fun vs zs => vs ++ zs) := by
  have h_all := T.g_all
  obtain ⟨_, hs_Way_line⟩ := T.s_Way_line
  have hC := T.C
  obtain ⟨_, hg_is_word, G_is_word⟩ := F_is_word (P := P) (base := base) T
  obtain ⟨ad, fd, hM, F⟩ := T.f_Way_init
  have hK := (F.kbinds0 (ps := ["self", "number", "above", "below", "end"]) 1 ["number", "above", "below", "end"] [] (fun us _ ws => us ++ ws) (by decide) (by intro q hq; cases hq) (fun r1 _ r3 => r1.append r3) fun D doc pm an cdv ct us mv ws hl hm hk => match us, mv, ws, hl, hm, hk with
    | [_], [], [k0, k1, k2, k3], _, _, _ => rfl).choose_spec
  exact ⟨ad, fd, hM, initOk_mk (k := 1) F sc_Way_init rfl (by decide) (fun cdv A outer s H E hr => by
    have sc := sc_Way_init
    have hu := hr.units
    have hu1 := hu_of hr
    exact (sss_cons (ss_if (st_not (st_val (se_all (sab_cons (((sn_lc (own := [("one", 5)]) (t := (.one 5)) ((si_seq (se_tup (sa_cons (se_var rfl (i := 1)) (sa_cons (se_var rfl (i := 2)) (sa_cons (se_var rfl (i := 3)) (sa_cons (se_var rfl (i := 4)) (sa_nil rfl)))))))).sic sc.nd (blkOk_by (by kernel_rfl)) (by decide) (fun s H C cl fp => (sg_one (i := 5) sc.nd)) (fun s H C cl fp => sts_nil) (fun s H C cl fp => (se_call G_is_word (hr.mono (by decide)) hg_is_word tk_in (sa_cons (se_var rfl (i := 5)) (sa_nil rfl)))))).se).sb (sab_nil rfl)) h_all))) (sss_one (ss_never rfl)) (sss_nil rfl))
    (sss_one (ss_self (k := 1) (i := 0) (se_tup (sa_cons (se_var rfl (i := 1)) (sa_cons (se_var rfl (i := 2)) (sa_cons (se_var rfl (i := 3)) (sa_cons (se_var rfl (i := 4)) (sa_nil rfl)))))) (hC.sc 1 (by decide)) hs_Way_line)))), hK⟩
theorem sc__law_way : FnScope ["_law_words_here"] ["_law_words_here"] (defScope (top 75)) := ⟨rfl, rfl, rfl, by decide +kernel, rfl, by decide +kernel, by decide +kernel⟩
theorem F__law_way (T : Fc c w mg) : ∃ ad, mg "_law_way" = some (.ref ad) ∧ Fn c P w mg base 4 ad 1 m__law_way := by
  have h_Way := T.g_Way
  have hC := T.C
  obtain ⟨_, _, mk_Way, G_Way_init⟩ := F_Way_init (P := P) (base := base) T
  obtain ⟨ad, fd, hmg, F⟩ := T.f__law_way
  exact ⟨ad, hmg, fn_mk (k := 3) F sc__law_way (F.bindsN fun _ _ _ _ _ _ us hl => match us, hl with | [_], _ => rfl) (fun cdv A outer s H E hr => by
    have sc := sc__law_way
    have hu := hr.units
    have hu1 := hu_of hr
    exact (sss_one (ss_ret (se_makeK (kc := 1) mk_Way G_Way_init.1 G_Way_init.2 (fun Ψ v zs ds r _ => ⟨zs, rfl, r⟩) (hr.mono (by decide)) h_Way tk_def (sk_cons (se_ix (sb_var rfl (i := 0)) ((se_int rfl)).sb) (sk_cons (se_ix (sb_var rfl (i := 0)) ((se_int rfl)).sb) (sk_cons (se_ix (sb_var rfl (i := 0)) ((se_int rfl)).sb) (sk_cons (se_ix (sb_var rfl (i := 0)) ((se_int rfl)).sb) (sk_nil rfl)))))))))⟩
theorem sc__law_origins : FnScope ["_law_words_here", "_law_rows_here", "_law_gap", "_law_spot", "_law_items", "_law_item", "_law_at_here", "_law_place", "_law_pointer_here", "_law_found", "_law_bare", "_law_half", "_law_rest", "_law_late", "_law_lost", "_law_index", "_law_row"] ["_law_words_here", "_law_rows_here", "_law_gap", "_law_spot"] (defScope (top 76)) := ⟨rfl, rfl, rfl, by decide +kernel, rfl, by decide +kernel, by decide +kernel⟩
theorem F__law_origins (T : Fc c w mg) : ∃ ad, mg "_law_origins" = some (.ref ad) ∧ Fn c P w mg base 4 ad 4 m__law_origins := by
  have h_list := T.g_list
  have h_range := T.g_range
  have h_enumerate := T.g_enumerate
  have h_tuple := T.g_tuple
  have hC := T.C
  obtain ⟨_, hg__law_edited, G__law_edited⟩ := F__law_edited (P := P) (base := base) T
  obtain ⟨_, hg__law_is_whole, G__law_is_whole⟩ := F__law_is_whole (P := P) (base := base) T
  obtain ⟨ad, fd, hmg, F⟩ := T.f__law_origins
  exact ⟨ad, hmg, fn_mk (k := 3) F sc__law_origins (F.bindsN fun _ _ _ _ _ _ us hl => match us, hl with | [_, _, _, _], _ => rfl) (fun cdv A outer s H E hr => by
    have sc := sc__law_origins
    have hu := hr.units
    have hu1 := hu_of hr
    exact (sss_cons (ss_asgT (t := (.tup [6, 7])) (se_var rfl (i := 3)) (sg_tup (sgs_cons (i := 6) (sgs_cons (i := 7) sgs_nil sc.nd) sc.nd)))
    (sss_cons (ss_parC (is := [8, 9]) (sam_val (se_ix ((se_ix ((se_ix (sb_var rfl (i := 1)) (sb_var rfl (i := 6)))).sb ((se_int rfl)).sb)).sb (sb_var rfl (i := 7))) (sam_own (sn_lst (sa_nil rfl)) (sam_nil rfl))) (sg_tup (sgs_cons (i := 8) (sgs_cons (i := 9) sgs_nil sc.nd) sc.nd)))
    (sss_cons (ss_setN (i := 4) (sn_lst (sa_cons (se_str rfl) (sa_cons (se_str rfl) (sa_cons (se_str rfl) (sa_cons (se_str rfl) (sa_nil rfl)))))) sc.nd)
    (sss_cons (ss_if (st_ne hu ((se_ix (sb_var rfl (i := 8)) ((se_int rfl)).sb)).sb ((se_str rfl)).sb) (sss_one (ss_setN (i := 4) (sn_listRg2 (se_if (st_in hu ((se_ix (sb_var rfl (i := 8)) ((se_int rfl)).sb)).sb ((se_tup (sa_cons (se_str rfl) (sa_cons (se_str rfl) (sa_nil rfl))))).sb) (se_int rfl) (se_int rfl)) (se_int rfl) h_list h_range) sc.nd)) (sss_nil rfl))
    (sss_cons (ss_frz [4] (ss_for (t := (.one 5)) (si_seq (se_var rfl (i := 4))) (sg_one (i := 5) sc.nd) (sss_cons (ss_setLc (i := 10) (own := [("_law_index", 15), ("_law_row", 16)]) (t := (.tup [15, 16])) ((si_enum (se_var rfl (i := 1)) h_enumerate)).sic sc.nd (blkOk_by (by kernel_rfl)) (by decide) (fun s H C cl fp => (sg_tup (sgs_cons (i := 15) (sgs_cons (i := 16) sgs_nil sc.nd) sc.nd))) (fun s H C cl fp => sts_nil) (fun s H C cl fp => (se_tup (sa_cons (se_ix (sb_var rfl (i := 16)) ((se_int rfl)).sb) (sa_cons (se_if (st_eq hu (sb_var rfl (i := 15)) (sb_var rfl (i := 6))) (se_tup (sa_cons (se_tup (sa_cons (se_ix (sb_var rfl (i := 8)) ((se_int rfl)).sb) (sa_cons (se_var rfl (i := 5)) (sa_nil rfl)))) (sa_nil rfl))) (se_tup (sa_nil rfl))) (sa_nil rfl))))))
    (sss_cons (ss_parS (i := 11) (j := 12) (sam_val (se_tuple (sab_cons (((sn_slice (sb_var rfl (i := 10)) (so_none rfl) (so_some (sb_var rfl (i := 2))))).se).sb (sab_nil rfl)) h_tuple) (sam_val (se_tuple (sab_cons (((sn_slice (sb_var rfl (i := 10)) (so_some (sb_var rfl (i := 2))) (so_none rfl))).se).sb (sab_nil rfl)) h_tuple) (sam_nil rfl))) sc.nd)
    (sss_cons (ss_asgT (t := (.tup [13, 14])) (se_call G__law_edited (hr.mono (by decide)) hg__law_edited tk_def (sa_cons (se_var rfl (i := 0)) (sa_cons (se_var rfl (i := 11)) (sa_cons (se_tup (sa_cons (se_str rfl) (sa_cons (se_var rfl (i := 12)) (sa_nil rfl)))) (sa_nil rfl))))) (sg_tup (sgs_cons (i := 13) (sgs_cons (i := 14) sgs_nil sc.nd) sc.nd)))
    (sss_one (ss_if ((sw_and (st_val (se_call G__law_is_whole (hr.mono (by decide)) hg__law_is_whole tk_def (sa_cons (se_var rfl (i := 11)) (sa_nil rfl)))) (sw_and (st_val (se_call G__law_is_whole (hr.mono (by decide)) hg__law_is_whole tk_def (sa_cons (se_var rfl (i := 12)) (sa_nil rfl)))) (sw_and (st_eq hu (sb_var rfl (i := 14)) (((sn_lst (sa_nil rfl))).se).sb) (sw_and1 (st_eq hu ((se_ix ((se_ix (sb_var rfl (i := 13)) (sb_var rfl (i := 6)))).sb ((se_int rfl)).sb)).sb ((se_tup (sa_cons (se_var rfl (i := 8)) (sa_nil rfl)))).sb)))))).st (sss_one (ss_append (i := 9) (se_tup (sa_cons (se_ix (sb_var rfl (i := 8)) ((se_int rfl)).sb) (sa_cons (se_var rfl (i := 5)) (sa_nil rfl)))))) (sss_nil rfl)))))) pa_def))
    (sss_one (ss_frz [9] (ss_ret (se_var rfl (i := 9)))))))))))⟩
theorem sc__law_halves : FnScope ["_law_words_here", "_law_rows_here", "_law_gap", "_law_found", "_law_at_here", "_law_row", "_law_pointers", "_law_place", "_law_some"] ["_law_words_here", "_law_rows_here", "_law_gap"] (defScope (top 77)) := ⟨rfl, rfl, rfl, by decide +kernel, rfl, by decide +kernel, by decide +kernel⟩
theorem F__law_halves (T : Fc c w mg) : ∃ ad, mg "_law_halves" = some (.ref ad) ∧ Fn c P w mg base 5 ad 3 m__law_halves := by
  have h_enumerate := T.g_enumerate
  have h_len := T.g_len
  have h_range := T.g_range
  have h_all := T.g_all
  have h_tuple := T.g_tuple
  have hC := T.C
  obtain ⟨_, hg__law_origins, G__law_origins⟩ := F__law_origins (P := P) (base := base) T
  obtain ⟨ad, fd, hmg, F⟩ := T.f__law_halves
  exact ⟨ad, hmg, fn_mk (k := 4) F sc__law_halves (F.bindsN fun _ _ _ _ _ _ us hl => match us, hl with | [_, _, _], _ => rfl) (fun cdv A outer s H E hr => by
    have sc := sc__law_halves
    have hu := hr.units
    have hu1 := hu_of hr
    exact (sss_cons (ss_setN (i := 3) (sn_lst (sa_nil rfl)) sc.nd)
    (sss_cons (ss_for (t := (.tup [4, 5])) (si_enum (se_var rfl (i := 1)) h_enumerate) (sg_tup (sgs_cons (i := 4) (sgs_cons (i := 5) sgs_nil sc.nd) sc.nd)) (sss_cons (ss_setLc (i := 6) (own := [("_law_place", 7)]) (t := (.one 7)) ((si_range1 (sa_cons (se_len (sab_cons ((se_ix (sb_var rfl (i := 5)) ((se_int rfl)).sb)).sb (sab_nil rfl)) h_len) (sa_nil rfl)) h_range)).sic sc.nd (blkOk_by (by kernel_rfl)) (by decide) (fun s H C cl fp => (sg_one (i := 7) sc.nd)) (fun s H C cl fp => sts_nil) (fun s H C cl fp => (se_call G__law_origins (hr.mono (by decide)) hg__law_origins tk_in (sa_cons (se_var rfl (i := 0)) (sa_cons (se_var rfl (i := 1)) (sa_cons (se_var rfl (i := 2)) (sa_cons (se_tup (sa_cons (se_var rfl (i := 4)) (sa_cons (se_var rfl (i := 7)) (sa_nil rfl)))) (sa_nil rfl))))))))
    (sss_cons (ss_if (st_not (st_val (se_all (sab_cons (((sn_lc (own := [("_law_some", 8)]) (t := (.one 8)) (sic_own (sb_var rfl (i := 6))) sc.nd (blkOk_by (by kernel_rfl)) (by decide) (fun s H C cl fp => (sg_one (i := 8) sc.nd)) (fun s H C cl fp => sts_nil) (fun s H C cl fp => (se_eq hu ((se_len (sab_cons (sb_var rfl (i := 8)) (sab_nil rfl)) h_len)).sb ((se_int rfl)).sb)))).se).sb (sab_nil rfl)) h_all))) (sss_one (ss_ret (se_non rfl))) (sss_nil rfl))
    (sss_one (ss_append (i := 3) (se_tup (sa_cons (se_ix (sb_var rfl (i := 5)) ((se_int rfl)).sb) (sa_cons (se_tuple (sab_cons (((sn_lc (own := [("_law_some", 8)]) (t := (.one 8)) (sic_own (sb_var rfl (i := 6))) sc.nd (blkOk_by (by kernel_rfl)) (by decide) (fun s H C cl fp => (sg_one (i := 8) sc.nd)) (fun s H C cl fp => sts_nil) (fun s H C cl fp => (se_ix (sb_var rfl (i := 8)) ((se_int rfl)).sb)))).se).sb (sab_nil rfl)) h_tuple) (sa_nil rfl)))))))) pa_def)
    (sss_one (ss_ret (se_tup (sa_cons (se_tuple (sab_cons (((sn_slice (sb_var rfl (i := 3)) (so_none rfl) (so_some (sb_var rfl (i := 2))))).se).sb (sab_nil rfl)) h_tuple) (sa_cons (se_tuple (sab_cons (((sn_slice (sb_var rfl (i := 3)) (so_some (sb_var rfl (i := 2))) (so_none rfl))).se).sb (sab_nil rfl)) h_tuple) (sa_nil rfl)))))))))⟩
theorem sc_check_way : FnScope ["thing"] ["thing"] (defScope (top 43)) := ⟨rfl, rfl, rfl, by decide +kernel, rfl, by decide +kernel, by decide +kernel⟩
theorem F_check_way (T : Fc c w mg) : ∃ ad, mg "check_way" = some (.ref ad) ∧ Fn c P w mg base 1 ad 1 m_check_way := by
  have h_Way := T.g_Way
  have h_isinstance := T.g_isinstance
  have hC := T.C
  obtain ⟨ad, fd, hmg, F⟩ := T.f_check_way
  exact ⟨ad, hmg, fn_mk (k := 0) F sc_check_way (F.bindsN fun _ _ _ _ _ _ us hl => match us, hl with | [_], _ => rfl) (fun cdv A outer s H E hr => by
    have sc := sc_check_way
    have hu := hr.units
    have hu1 := hu_of hr
    exact (sss_one (ss_if (st_not (st_val (se_iso hC (sab_cons (sb_var rfl (i := 0)) (sab_cons ((se_glob (v := .ref (c.cls 1)) rfl (by rfl) h_Way rfl (fun _ => .cls _))).sb (sab_nil rfl))) h_isinstance))) (sss_one (ss_never rfl)) (sss_nil rfl))))⟩
theorem sc_check_steps : FnScope ["thing"] ["thing"] (defScope (top 28)) := ⟨rfl, rfl, rfl, by decide +kernel, rfl, by decide +kernel, by decide +kernel⟩
theorem F_check_steps (T : Fc c w mg) : ∃ ad, mg "check_steps" = some (.ref ad) ∧ Fn c P w mg base 1 ad 1 m_check_steps := by
  have h_Steps := T.g_Steps
  have h_isinstance := T.g_isinstance
  have hC := T.C
  obtain ⟨ad, fd, hmg, F⟩ := T.f_check_steps
  exact ⟨ad, hmg, fn_mk (k := 0) F sc_check_steps (F.bindsN fun _ _ _ _ _ _ us hl => match us, hl with | [_], _ => rfl) (fun cdv A outer s H E hr => by
    have sc := sc_check_steps
    have hu := hr.units
    have hu1 := hu_of hr
    exact (sss_one (ss_if (st_not (st_val (se_iso hC (sab_cons (sb_var rfl (i := 0)) (sab_cons ((se_glob (v := .ref (c.cls 0)) rfl (by rfl) h_Steps rfl (fun _ => .cls _))).sb (sab_nil rfl))) h_isinstance))) (sss_one (ss_never rfl)) (sss_nil rfl))))⟩
theorem sc_Steps_len : FnScope ["self"] ["self"] (defScope (inClass (top 27) 5)) := ⟨rfl, rfl, rfl, by decide +kernel, rfl, by decide +kernel, by decide +kernel⟩
theorem F_Steps_len (T : Fc c w mg) : ∃ ad, Meth c.K (c.cls 0) "__len__" ad ∧ Fn c P w mg base 1 ad 1 m_Steps_len := by
  obtain ⟨_, hs_Steps_line⟩ := T.s_Steps_line
  have h_len := T.g_len
  have hC := T.C
  obtain ⟨ad, fd, hmg, F⟩ := T.f_Steps_len
  exact ⟨ad, hmg, fn_mk (k := 0) F sc_Steps_len (F.bindsN fun _ _ _ _ _ _ us hl => match us, hl with | [_], _ => rfl) (fun cdv A outer s H E hr => by
    have sc := sc_Steps_len
    have hu := hr.units
    have hu1 := hu_of hr
    exact (sss_one (ss_ret (se_len (sab_cons ((se_attr (k := 0) (i := 0) (se_var rfl (i := 0)) (hC.sc 0 (by decide)) hs_Steps_line)).sb (sab_nil rfl)) h_len))))⟩
theorem sc_all_spots : FnScope ["rows", "place", "at", "row"] ["rows"] (defScope (top 23)) := ⟨rfl, rfl, rfl, by decide +kernel, rfl, by decide +kernel, by decide +kernel⟩
theorem F_all_spots (T : Fc c w mg) : ∃ ad, mg "all_spots" = some (.ref ad) ∧ Fn c P w mg base 1 ad 1 m_all_spots := by
  have h_enumerate := T.g_enumerate
  have h_len := T.g_len
  have h_range := T.g_range
  have hC := T.C
  obtain ⟨ad, fd, hmg, F⟩ := T.f_all_spots
  exact ⟨ad, hmg, fn_mk (k := 0) F sc_all_spots (F.bindsN fun _ _ _ _ _ _ us hl => match us, hl with | [_], _ => rfl) (fun cdv A outer s H E hr => by
    have sc := sc_all_spots
    have hu := hr.units
    have hu1 := hu_of hr
    exact (sss_one (ss_ret ((sn_lc2 (own := [("at", 2), ("row", 3), ("place", 1)]) (t := (.tup [2, 3])) (t1 := (.one 1)) (vs1 := [1]) ((si_enum (se_var rfl (i := 0)) h_enumerate)).sic sc.nd (blkOk_by (by kernel_rfl)) (by decide) (by decide) (by decide) (fun s H C cl fp => (sg_tup (sgs_cons (i := 2) (sgs_cons (i := 3) sgs_nil sc.nd) sc.nd))) (fun s H C cl fp => sts_nil) (fun s H C cl fp => (si_range1 (sa_cons (se_len (sab_cons ((se_ix (sb_var rfl (i := 3)) ((se_int rfl)).sb)).sb (sab_nil rfl)) h_len) (sa_nil rfl)) h_range)) (fun s H C cl fp => (sg_one (i := 1) sc.nd)) (fun s H C cl fp => sts_nil) (fun s H C cl fp => (se_tup (sa_cons (se_var rfl (i := 2)) (sa_cons (se_var rfl (i := 1)) (sa_nil rfl))))))).se)))⟩
theorem sc_first_with : FnScope ["rows", "label", "at", "row"] ["rows", "label"] (defScope (top 21)) := ⟨rfl, rfl, rfl, by decide +kernel, rfl, by decide +kernel, by decide +kernel⟩
theorem F_first_with (T : Fc c w mg) : ∃ ad, mg "first_with" = some (.ref ad) ∧ Fn c P w mg base 1 ad 2 m_first_with := by
  have h_enumerate := T.g_enumerate
  have hC := T.C
  obtain ⟨ad, fd, hmg, F⟩ := T.f_first_with
  exact ⟨ad, hmg, fn_mk (k := 0) F sc_first_with (F.bindsN fun _ _ _ _ _ _ us hl => match us, hl with | [_, _], _ => rfl) (fun cdv A outer s H E hr => by
    have sc := sc_first_with
    have hu := hr.units
    have hu1 := hu_of hr
    exact (sss_cons (ss_for (t := (.tup [2, 3])) (si_enum (se_var rfl (i := 0)) h_enumerate) (sg_tup (sgs_cons (i := 2) (sgs_cons (i := 3) sgs_nil sc.nd) sc.nd)) (sss_one (ss_if (st_eq hu ((se_ix (sb_var rfl (i := 3)) ((se_int rfl)).sb)).sb (sb_var rfl (i := 1))) (sss_one (ss_ret (se_var rfl (i := 2)))) (sss_nil rfl))) pa_def)
    (sss_one (ss_ret (se_non rfl)))))⟩
theorem sc_meaning : FnScope ["rows", "at", "pointer", "kind", "number", "spot"] ["rows", "at", "pointer"] (defScope (top 22)) := ⟨rfl, rfl, rfl, by decide +kernel, rfl, by decide +kernel, by decide +kernel⟩
theorem F_meaning (T : Fc c w mg) : ∃ ad, mg "meaning" = some (.ref ad) ∧ Fn c P w mg base 2 ad 3 m_meaning := by
  have h_len := T.g_len
  have hC := T.C
  obtain ⟨_, hg_first_with, G_first_with⟩ := F_first_with (P := P) (base := base) T
  obtain ⟨ad, fd, hmg, F⟩ := T.f_meaning
  exact ⟨ad, hmg, fn_mk (k := 1) F sc_meaning (F.bindsN fun _ _ _ _ _ _ us hl => match us, hl with | [_, _, _], _ => rfl) (fun cdv A outer s H E hr => by
    have sc := sc_meaning
    have hu := hr.units
    have hu1 := hu_of hr
    exact (sss_cons (ss_asgT (t := (.tup [3, 4])) (se_var rfl (i := 2)) (sg_tup (sgs_cons (i := 3) (sgs_cons (i := 4) sgs_nil sc.nd) sc.nd)))
    (sss_cons (ss_if (st_eq hu (sb_var rfl (i := 3)) ((se_str rfl)).sb) (sss_one (ss_ret (se_call G_first_with (hr.mono (by decide)) hg_first_with tk_def (sa_cons (se_var rfl (i := 0)) (sa_cons (se_var rfl (i := 4)) (sa_nil rfl)))))) (sss_nil rfl))
    (sss_cons (ss_if (st_eq hu (sb_var rfl (i := 3)) ((se_str rfl)).sb) (sss_one (ss_set (i := 5) (se_var rfl (i := 4)) sc.nd)) (sss_one (ss_if (st_eq hu (sb_var rfl (i := 3)) ((se_str rfl)).sb) (sss_one (ss_set (i := 5) (se_sub ((se_sub ((se_len (sab_cons (sb_var rfl (i := 0)) (sab_nil rfl)) h_len)).sb ((se_int rfl)).sb)).sb (sb_var rfl (i := 4))) sc.nd)) (sss_one (ss_set (i := 5) (se_if (st_eq hu (sb_var rfl (i := 3)) ((se_str rfl)).sb) (se_sub (sb_var rfl (i := 1)) (sb_var rfl (i := 4))) (se_add (sb_var rfl (i := 1)) (sb_var rfl (i := 4)))) sc.nd)))))
    (sss_one (ss_ret (se_if (st_leLt ((se_int rfl)).sb (sb_var rfl (i := 5)) ((se_len (sab_cons (sb_var rfl (i := 0)) (sab_nil rfl)) h_len)).sb) (se_var rfl (i := 5)) (se_non rfl))))))))⟩
theorem sc_meant_at : FnScope ["rows", "spot"] ["rows", "spot"] (defScope (top 24)) := ⟨rfl, rfl, rfl, by decide +kernel, rfl, by decide +kernel, by decide +kernel⟩
theorem F_meant_at (T : Fc c w mg) : ∃ ad, mg "meant_at" = some (.ref ad) ∧ Fn c P w mg base 3 ad 2 m_meant_at := by
  have hC := T.C
  obtain ⟨_, hg_meaning, G_meaning⟩ := F_meaning (P := P) (base := base) T
  obtain ⟨ad, fd, hmg, F⟩ := T.f_meant_at
  exact ⟨ad, hmg, fn_mk (k := 2) F sc_meant_at (F.bindsN fun _ _ _ _ _ _ us hl => match us, hl with | [_, _], _ => rfl) (fun cdv A outer s H E hr => by
    have sc := sc_meant_at
    have hu := hr.units
    have hu1 := hu_of hr
    exact (sss_one (ss_ret (se_call G_meaning (hr.mono (by decide)) hg_meaning tk_def (sa_cons (se_var rfl (i := 0)) (sa_cons (se_ix (sb_var rfl (i := 1)) ((se_int rfl)).sb) (sa_cons (se_ix ((se_ix ((se_ix (sb_var rfl (i := 0)) ((se_ix (sb_var rfl (i := 1)) ((se_int rfl)).sb)).sb)).sb ((se_int rfl)).sb)).sb ((se_ix (sb_var rfl (i := 1)) ((se_int rfl)).sb)).sb) (sa_nil rfl))))))))⟩
theorem sc_does_bar : FnScope ["words", "rows", "gap", "spot", "kind", "at", "meant"] ["words", "rows", "gap", "spot"] (defScope (top 47)) := ⟨rfl, rfl, rfl, by decide +kernel, rfl, by decide +kernel, by decide +kernel⟩
theorem F_does_bar (T : Fc c w mg) : ∃ ad, mg "does_bar" = some (.ref ad) ∧ Fn c P w mg base 4 ad 4 m_does_bar := by
  have h_len := T.g_len
  obtain ⟨_, h_KINDS⟩ := T.g_KINDS
  have hC := T.C
  obtain ⟨_, hg_meant_at, G_meant_at⟩ := F_meant_at (P := P) (base := base) T
  obtain ⟨ad, fd, hmg, F⟩ := T.f_does_bar
  exact ⟨ad, hmg, fn_mk (k := 3) F sc_does_bar (F.bindsN fun _ _ _ _ _ _ us hl => match us, hl with | [_, _, _, _], _ => rfl) (fun cdv A outer s H E hr => by
    have sc := sc_does_bar
    have hu := hr.units
    have hu1 := hu_of hr
    exact (sss_cons (ss_parS (i := 5) (j := 6) (sam_val (se_ix (sb_var rfl (i := 3)) ((se_int rfl)).sb) (sam_val (se_call G_meant_at (hr.mono (by decide)) hg_meant_at tk_def (sa_cons (se_var rfl (i := 1)) (sa_cons (se_var rfl (i := 3)) (sa_nil rfl)))) (sam_nil rfl))) sc.nd)
    (sss_cons (ss_if ((sw_or (st_isN (sb_var rfl (i := 6))) (sw_or1 (st_ne hu ((se_lt (sb_var rfl (i := 6)) (sb_var rfl (i := 2)))).sb ((se_lt (sb_var rfl (i := 5)) (sb_var rfl (i := 2)))).sb)))).st (sss_one (ss_ret (se_bl rfl))) (sss_nil rfl))
    (sss_cons (ss_set (i := 4) (se_ix ((se_ix ((se_ix ((se_ix (sb_var rfl (i := 1)) (sb_var rfl (i := 5)))).sb ((se_int rfl)).sb)).sb ((se_ix (sb_var rfl (i := 3)) ((se_int rfl)).sb)).sb)).sb ((se_int rfl)).sb) sc.nd)
    (sss_cons (ss_if (st_eq hu (sb_var rfl (i := 4)) ((se_str rfl)).sb) (sss_one (ss_ret (se_and (se_ltLt (sb_var rfl (i := 5)) (sb_var rfl (i := 2)) ((se_len (sab_cons (sb_var rfl (i := 1)) (sab_nil rfl)) h_len)).sb) (se_and1 (se_eq hu ((se_ix (sb_var rfl (i := 0)) ((se_kidx h_KINDS.2 (by rfl) h_KINDS.1 (se_str rfl))).sb)).sb ((se_str rfl)).sb))))) (sss_nil rfl))
    (sss_one (ss_ret (se_and (se_eq hu (sb_var rfl (i := 4)) ((se_str rfl)).sb) (se_and (se_geGt (sb_var rfl (i := 5)) (sb_var rfl (i := 2)) ((se_int rfl)).sb) (se_and1 (se_eq hu ((se_ix (sb_var rfl (i := 0)) ((se_kidx h_KINDS.2 (by rfl) h_KINDS.1 (se_str rfl))).sb)).sb ((se_str rfl)).sb)))))))))))⟩
theorem sc_bars_of : FnScope ["words", "rows", "gap", "spot"] ["words", "rows", "gap"] (defScope (top 48)) := ⟨rfl, rfl, rfl, by decide +kernel, rfl, by decide +kernel, by decide +kernel⟩
theorem F_bars_of (T : Fc c w mg) : ∃ ad, mg "bars_of" = some (.ref ad) ∧ Fn c P w mg base 5 ad 3 m_bars_of := by
  have hC := T.C
  obtain ⟨_, hg_all_spots, G_all_spots⟩ := F_all_spots (P := P) (base := base) T
  obtain ⟨_, hg_does_bar, G_does_bar⟩ := F_does_bar (P := P) (base := base) T
  obtain ⟨ad, fd, hmg, F⟩ := T.f_bars_of
  exact ⟨ad, hmg, fn_mk (k := 4) F sc_bars_of (F.bindsN fun _ _ _ _ _ _ us hl => match us, hl with | [_, _, _], _ => rfl) (fun cdv A outer s H E hr => by
    have sc := sc_bars_of
    have hu := hr.units
    have hu1 := hu_of hr
    exact (sss_one (ss_ret ((sn_lc (own := [("spot", 3)]) (t := (.one 3)) ((si_seq (se_call G_all_spots (hr.mono (by decide)) hg_all_spots tk_def (sa_cons (se_var rfl (i := 1)) (sa_nil rfl))))).sic sc.nd (blkOk_by (by kernel_rfl)) (by decide) (fun s H C cl fp => (sg_one (i := 3) sc.nd)) (fun s H C cl fp => (sts_one (st_val (se_call G_does_bar (hr.mono (by decide)) hg_does_bar tk_in (sa_cons (se_var rfl (i := 0)) (sa_cons (se_var rfl (i := 1)) (sa_cons (se_var rfl (i := 2)) (sa_cons (se_var rfl (i := 3)) (sa_nil rfl))))))))) (fun s H C cl fp => (se_var rfl (i := 3))))).se)))⟩
theorem sc_Way_words : FnScope ["self"] ["self"] (defScope (inClass (top 41) 7)) := ⟨rfl, rfl, rfl, by decide +kernel, rfl, by decide +kernel, by decide +kernel⟩
theorem F_Way_words (T : Fc c w mg) : ∃ p ad, Prp c.K (c.cls 1) "words" p ad ∧ Fn c P w mg base 1 ad 1 m_Way_words := by
  obtain ⟨_, hs_Way_line⟩ := T.s_Way_line
  have hC := T.C
  obtain ⟨p, ad, fd, hP, F⟩ := T.f_Way_words
  exact ⟨p, ad, hP, fn_mk (k := 0) F sc_Way_words (F.bindsN fun _ _ _ _ _ _ us hl => match us, hl with | [_], _ => rfl) (fun cdv A outer s H E hr => by
    have sc := sc_Way_words
    have hu := hr.units
    have hu1 := hu_of hr
    exact (sss_one (ss_ret (se_attr (k := 1) (i := 0) (se_var rfl (i := 0)) (hC.sc 1 (by decide)) hs_Way_line))))⟩
theorem sc_Steps_rows : FnScope ["self"] ["self"] (defScope (inClass (top 27) 3)) := ⟨rfl, rfl, rfl, by decide +kernel, rfl, by decide +kernel, by decide +kernel⟩
theorem F_Steps_rows (T : Fc c w mg) : ∃ p ad, Prp c.K (c.cls 0) "rows" p ad ∧ Fn c P w mg base 1 ad 1 m_Steps_rows := by
  obtain ⟨_, hs_Steps_line⟩ := T.s_Steps_line
  have hC := T.C
  obtain ⟨p, ad, fd, hP, F⟩ := T.f_Steps_rows
  exact ⟨p, ad, hP, fn_mk (k := 0) F sc_Steps_rows (F.bindsN fun _ _ _ _ _ _ us hl => match us, hl with | [_], _ => rfl) (fun cdv A outer s H E hr => by
    have sc := sc_Steps_rows
    have hu := hr.units
    have hu1 := hu_of hr
    exact (sss_one (ss_ret (se_attr (k := 0) (i := 0) (se_var rfl (i := 0)) (hC.sc 0 (by decide)) hs_Steps_line))))⟩
theorem sc_seams : FnScope ["way", "steps", "gap"] ["way", "steps"] (defScope (top 56)) := ⟨rfl, rfl, rfl, by decide +kernel, rfl, by decide +kernel, by decide +kernel⟩
theorem F_seams (T : Fc c w mg) : ∃ ad, mg "seams" = some (.ref ad) ∧ Fn c P w mg base 6 ad 2 m_seams := by
  have h_len := T.g_len
  have h_range := T.g_range
  have hC := T.C
  obtain ⟨_, hg_check_way, G_check_way⟩ := F_check_way (P := P) (base := base) T
  obtain ⟨_, hg_check_steps, G_check_steps⟩ := F_check_steps (P := P) (base := base) T
  obtain ⟨_, hm_Steps_len, G_Steps_len⟩ := F_Steps_len (P := P) (base := base) T
  obtain ⟨_, hg_bars_of, G_bars_of⟩ := F_bars_of (P := P) (base := base) T
  obtain ⟨_, _, hp_Way_words, G_Way_words⟩ := F_Way_words (P := P) (base := base) T
  obtain ⟨_, _, hp_Steps_rows, G_Steps_rows⟩ := F_Steps_rows (P := P) (base := base) T
  obtain ⟨ad, fd, hmg, F⟩ := T.f_seams
  exact ⟨ad, hmg, fn_mk (k := 5) F sc_seams (F.bindsN fun _ _ _ _ _ _ us hl => match us, hl with | [_, _], _ => rfl) (fun cdv A outer s H E hr => by
    have sc := sc_seams
    have hu := hr.units
    have hu1 := hu_of hr
    exact (sss_cons (ss_expr (se_call G_check_way (hr.mono (by decide)) hg_check_way tk_def (sa_cons (se_var rfl (i := 0)) (sa_nil rfl))))
    (sss_cons (ss_expr (se_call G_check_steps (hr.mono (by decide)) hg_check_steps tk_def (sa_cons (se_var rfl (i := 1)) (sa_nil rfl))))
    (sss_one (ss_ret ((sn_lc (own := [("gap", 2)]) (t := (.one 2)) ((si_range1 (sa_cons (se_add ((se_lenO (k := 0) (se_var rfl (i := 1)) h_len (hC.sc 0 (by decide)) hm_Steps_len G_Steps_len (hr.mono (by decide)))).sb ((se_int rfl)).sb) (sa_nil rfl)) h_range)).sic sc.nd (blkOk_by (by kernel_rfl)) (by decide) (fun s H C cl fp => (sg_one (i := 2) sc.nd)) (fun s H C cl fp => (sts_one (st_eq hu ((se_call G_bars_of (hr.mono (by decide)) hg_bars_of tk_in (sa_cons (se_prop (k := 1) (se_var rfl (i := 0)) (hC.sc 1 (by decide)) hp_Way_words G_Way_words (hr.mono (by decide))) (sa_cons (se_prop (k := 0) (se_var rfl (i := 1)) (hC.sc 0 (by decide)) hp_Steps_rows G_Steps_rows (hr.mono (by decide))) (sa_cons (se_var rfl (i := 2)) (sa_nil rfl)))))).sb (((sn_lst (sa_nil rfl))).se).sb))) (fun s H C cl fp => (se_var rfl (i := 2))))).se)))))⟩
theorem sc_is_label : FnScope ["thing"] ["thing"] (defScope (top 17)) := ⟨rfl, rfl, rfl, by decide +kernel, rfl, by decide +kernel, by decide +kernel⟩
theorem F_is_label (T : Fc c w mg) : ∃ ad, mg "is_label" = some (.ref ad) ∧ Fn c P w mg base 1 ad 1 m_is_label := by
  have h_str := T.g_str
  have h_isinstance := T.g_isinstance
  obtain ⟨_, h_LETTERS⟩ := T.g_LETTERS
  have hC := T.C
  obtain ⟨ad, fd, hmg, F⟩ := T.f_is_label
  exact ⟨ad, hmg, fn_mk (k := 0) F sc_is_label (F.bindsN fun _ _ _ _ _ _ us hl => match us, hl with | [_], _ => rfl) (fun cdv A outer s H E hr => by
    have sc := sc_is_label
    have hu := hr.units
    have hu1 := hu_of hr
    exact (sss_one (ss_ret (se_and (se_isi (sab_cons (sb_var rfl (i := 0)) (sab_cons ((se_bltn (v := .ty "str") rfl (by rfl) h_str (by decide +kernel) rfl (fun _ => .ty _))).sb (sab_nil rfl))) h_isinstance) (se_and1 (se_in hu (sb_var rfl (i := 0)) ((se_glob (v := .ref _) rfl (by rfl) h_LETTERS.1 rfl (h_LETTERS.2.rep (by decide)))).sb))))))⟩
theorem sc_is_number : FnScope ["thing", "low", "high"] ["thing", "low", "high"] (defScope (top 16)) := ⟨rfl, rfl, rfl, by decide +kernel, rfl, by decide +kernel, by decide +kernel⟩
theorem F_is_number (T : Fc c w mg) : ∃ ad, mg "is_number" = some (.ref ad) ∧ Fn c P w mg base 1 ad 3 m_is_number := by
  have h_int := T.g_int
  have h_isinstance := T.g_isinstance
  have h_bool := T.g_bool
  have hC := T.C
  obtain ⟨ad, fd, hmg, F⟩ := T.f_is_number
  exact ⟨ad, hmg, fn_mk (k := 0) F sc_is_number (F.bindsN fun _ _ _ _ _ _ us hl => match us, hl with | [_, _, _], _ => rfl) (fun cdv A outer s H E hr => by
    have sc := sc_is_number
    have hu := hr.units
    have hu1 := hu_of hr
    exact (sss_one (ss_ret (se_and (se_isi (sab_cons (sb_var rfl (i := 0)) (sab_cons ((se_bltn (v := .ty "int") rfl (by rfl) h_int boot_int rfl (fun _ => .ty _))).sb (sab_nil rfl))) h_isinstance) (se_and (se_not (se_isi (sab_cons (sb_var rfl (i := 0)) (sab_cons ((se_bltn (v := .ty "bool") rfl (by rfl) h_bool (by decide +kernel) rfl (fun _ => .ty _))).sb (sab_nil rfl))) h_isinstance)) (se_and1 (se_leLe (sb_var rfl (i := 1)) (sb_var rfl (i := 0)) (sb_var rfl (i := 2)))))))))⟩
theorem sc_is_pointer : FnScope ["thing"] ["thing"] (defScope (top 18)) := ⟨rfl, rfl, rfl, by decide +kernel, rfl, by decide +kernel, by decide +kernel⟩
theorem F_is_pointer (T : Fc c w mg) : ∃ ad, mg "is_pointer" = some (.ref ad) ∧ Fn c P w mg base 2 ad 1 m_is_pointer := by
  have h_tuple := T.g_tuple
  have h_isinstance := T.g_isinstance
  have h_len := T.g_len
  have h_str := T.g_str
  obtain ⟨_, h_MOST_NUMBER⟩ := T.g_MOST_NUMBER
  have hC := T.C
  obtain ⟨_, hg_is_label, G_is_label⟩ := F_is_label (P := P) (base := base) T
  obtain ⟨_, hg_is_number, G_is_number⟩ := F_is_number (P := P) (base := base) T
  obtain ⟨ad, fd, hmg, F⟩ := T.f_is_pointer
  exact ⟨ad, hmg, fn_mk (k := 1) F sc_is_pointer (F.bindsN fun _ _ _ _ _ _ us hl => match us, hl with | [_], _ => rfl) (fun cdv A outer s H E hr => by
    have sc := sc_is_pointer
    have hu := hr.units
    have hu1 := hu_of hr
    exact (sss_cons (ss_if ((sw_or (st_not (st_val (se_isi (sab_cons (sb_var rfl (i := 0)) (sab_cons ((se_bltn (v := .ty "tuple") rfl (by rfl) h_tuple boot_tuple rfl (fun _ => .ty _))).sb (sab_nil rfl))) h_isinstance))) (sw_or (st_ne hu ((se_len (sab_cons (sb_var rfl (i := 0)) (sab_nil rfl)) h_len)).sb ((se_int rfl)).sb) (sw_or1 (st_not (st_val (se_isi (sab_cons ((se_ix (sb_var rfl (i := 0)) ((se_int rfl)).sb)).sb (sab_cons ((se_bltn (v := .ty "str") rfl (by rfl) h_str (by decide +kernel) rfl (fun _ => .ty _))).sb (sab_nil rfl))) h_isinstance))))))).st (sss_one (ss_ret (se_bl rfl))) (sss_nil rfl))
    (sss_cons (ss_if (st_eq hu ((se_ix (sb_var rfl (i := 0)) ((se_int rfl)).sb)).sb ((se_str rfl)).sb) (sss_one (ss_ret (se_call G_is_label (hr.mono (by decide)) hg_is_label tk_def (sa_cons (se_ix (sb_var rfl (i := 0)) ((se_int rfl)).sb) (sa_nil rfl))))) (sss_nil rfl))
    (sss_cons (ss_if (st_in hu ((se_ix (sb_var rfl (i := 0)) ((se_int rfl)).sb)).sb ((se_tup (sa_cons (se_str rfl) (sa_cons (se_str rfl) (sa_nil rfl))))).sb) (sss_one (ss_ret (se_call G_is_number (hr.mono (by decide)) hg_is_number tk_def (sa_cons (se_ix (sb_var rfl (i := 0)) ((se_int rfl)).sb) (sa_cons (se_int rfl) (sa_cons (se_glob rfl (by rfl) h_MOST_NUMBER.1 h_MOST_NUMBER.2 (fun _ => .int _)) (sa_nil rfl))))))) (sss_nil rfl))
    (sss_one (ss_ret (se_and (se_in hu ((se_ix (sb_var rfl (i := 0)) ((se_int rfl)).sb)).sb ((se_tup (sa_cons (se_str rfl) (sa_cons (se_str rfl) (sa_nil rfl))))).sb) (se_and1 (se_call G_is_number (hr.mono (by decide)) hg_is_number tk_def (sa_cons (se_ix (sb_var rfl (i := 0)) ((se_int rfl)).sb) (sa_cons (se_int rfl) (sa_cons (se_glob rfl (by rfl) h_MOST_NUMBER.1 h_MOST_NUMBER.2 (fun _ => .int _)) (sa_nil rfl)))))))))))))⟩
theorem sc_is_step : FnScope ["thing", "one"] ["thing"] (defScope (top 19)) := ⟨rfl, rfl, rfl, by decide +kernel, rfl, by decide +kernel, by decide +kernel⟩
theorem F_is_step (T : Fc c w mg) : ∃ ad, mg "is_step" = some (.ref ad) ∧ Fn c P w mg base 3 ad 1 m_is_step := by
  have h_tuple := T.g_tuple
  have h_isinstance := T.g_isinstance
  have h_len := T.g_len
  obtain ⟨_, h_MOST_POINTERS⟩ := T.g_MOST_POINTERS
  have h_all := T.g_all
  have hC := T.C
  obtain ⟨_, hg_is_label, G_is_label⟩ := F_is_label (P := P) (base := base) T
  obtain ⟨_, hg_is_pointer, G_is_pointer⟩ := F_is_pointer (P := P) (base := base) T
  obtain ⟨ad, fd, hmg, F⟩ := T.f_is_step
  exact ⟨ad, hmg, fn_mk (k := 2) F sc_is_step (F.bindsN fun _ _ _ _ _ _ us hl => match us, hl with | [_], _ => rfl) (fun cdv A outer s H E hr => by
    have sc := sc_is_step
    have hu := hr.units
    have hu1 := hu_of hr
    exact (sss_cons (ss_if ((sw_or (st_not (st_val (se_isi (sab_cons (sb_var rfl (i := 0)) (sab_cons ((se_bltn (v := .ty "tuple") rfl (by rfl) h_tuple boot_tuple rfl (fun _ => .ty _))).sb (sab_nil rfl))) h_isinstance))) (sw_or (st_ne hu ((se_len (sab_cons (sb_var rfl (i := 0)) (sab_nil rfl)) h_len)).sb ((se_int rfl)).sb) (sw_or1 (st_not ((sw_or (st_isN ((se_ix (sb_var rfl (i := 0)) ((se_int rfl)).sb)).sb) (sw_or1 (st_val (se_call G_is_label (hr.mono (by decide)) hg_is_label tk_def (sa_cons (se_ix (sb_var rfl (i := 0)) ((se_int rfl)).sb) (sa_nil rfl))))))).st))))).st (sss_one (ss_ret (se_bl rfl))) (sss_nil rfl))
    (sss_cons (ss_if ((sw_or (st_not (st_val (se_isi (sab_cons ((se_ix (sb_var rfl (i := 0)) ((se_int rfl)).sb)).sb (sab_cons ((se_bltn (v := .ty "tuple") rfl (by rfl) h_tuple boot_tuple rfl (fun _ => .ty _))).sb (sab_nil rfl))) h_isinstance))) (sw_or1 (st_gt ((se_len (sab_cons ((se_ix (sb_var rfl (i := 0)) ((se_int rfl)).sb)).sb (sab_nil rfl)) h_len)).sb ((se_glob rfl (by rfl) h_MOST_POINTERS.1 h_MOST_POINTERS.2 (fun _ => .int _))).sb)))).st (sss_one (ss_ret (se_bl rfl))) (sss_nil rfl))
    (sss_one (ss_ret (se_all (sab_cons (((sn_lc (own := [("one", 1)]) (t := (.one 1)) ((si_seq (se_ix (sb_var rfl (i := 0)) ((se_int rfl)).sb))).sic sc.nd (blkOk_by (by kernel_rfl)) (by decide) (fun s H C cl fp => (sg_one (i := 1) sc.nd)) (fun s H C cl fp => sts_nil) (fun s H C cl fp => (se_call G_is_pointer (hr.mono (by decide)) hg_is_pointer tk_in (sa_cons (se_var rfl (i := 1)) (sa_nil rfl)))))).se).sb (sab_nil rfl)) h_all))))))⟩
theorem sc_Steps_init : FnScope ["self", "rows", "at", "row"] ["self", "rows"] (defScope (inClass (top 27) 1)) := ⟨rfl, rfl, rfl, by decide +kernel, rfl, by decide +kernel, by decide +kernel⟩
theorem F_Steps_init (T : Fc c w mg) : ∃ ad fd, Mk c.K (c.cls 0) ad ∧ FnOk P w c.K mg base (L2.CX P w) 4 ad fd ["self", "rows"] (PromI c 1 0 m_Steps_init) ∧ Binds c.K fd ["self", "rows"] [] := by
  have h_tuple := T.g_tuple
  have h_isinstance := T.g_isinstance
  have h_len := T.g_len
  obtain ⟨_, h_MOST_STEPS⟩ := T.g_MOST_STEPS
  have h_enumerate := T.g_enumerate
  obtain ⟨_, hs_Steps_line⟩ := T.s_Steps_line
  have hC := T.C
  obtain ⟨_, hg_is_step, G_is_step⟩ := F_is_step (P := P) (base := base) T
  obtain ⟨ad, fd, hM, F⟩ := T.f_Steps_init
  exact ⟨ad, fd, hM, initOk_mk (k := 3) F sc_Steps_init rfl (by decide) (fun cdv A outer s H E hr => by
    have sc := sc_Steps_init
    have hu := hr.units
    have hu1 := hu_of hr
    exact (sss_cons (ss_if ((sw_or (st_not (st_val (se_isi (sab_cons (sb_var rfl (i := 1)) (sab_cons ((se_bltn (v := .ty "tuple") rfl (by rfl) h_tuple boot_tuple rfl (fun _ => .ty _))).sb (sab_nil rfl))) h_isinstance))) (sw_or1 (st_gt ((se_len (sab_cons (sb_var rfl (i := 1)) (sab_nil rfl)) h_len)).sb ((se_glob rfl (by rfl) h_MOST_STEPS.1 h_MOST_STEPS.2 (fun _ => .int _))).sb)))).st (sss_one (ss_never rfl)) (sss_nil rfl))
    (sss_cons (ss_for (t := (.tup [2, 3])) (si_enum (se_var rfl (i := 1)) h_enumerate) (sg_tup (sgs_cons (i := 2) (sgs_cons (i := 3) sgs_nil sc.nd) sc.nd)) (sss_one (ss_if (st_not (st_val (se_call G_is_step (hr.mono (by decide)) hg_is_step tk_def (sa_cons (se_var rfl (i := 3)) (sa_nil rfl))))) (sss_one (ss_never rfl)) (sss_nil rfl))) pa_def)
    (sss_one (ss_self (k := 0) (i := 0) (se_var rfl (i := 1)) (hC.sc 0 (by decide)) hs_Steps_line))))), (F.bindsN fun _ _ _ _ _ _ us hl => match us, hl with | [_, _], _ => rfl)⟩
theorem sc_are_whole : FnScope ["rows", "spot"] ["rows"] (defScope (top 25)) := ⟨rfl, rfl, rfl, by decide +kernel, rfl, by decide +kernel, by decide +kernel⟩
theorem F_are_whole (T : Fc c w mg) : ∃ ad, mg "are_whole" = some (.ref ad) ∧ Fn c P w mg base 4 ad 1 m_are_whole := by
  have h_all := T.g_all
  have hC := T.C
  obtain ⟨_, hg_all_spots, G_all_spots⟩ := F_all_spots (P := P) (base := base) T
  obtain ⟨_, hg_meant_at, G_meant_at⟩ := F_meant_at (P := P) (base := base) T
  obtain ⟨ad, fd, hmg, F⟩ := T.f_are_whole
  exact ⟨ad, hmg, fn_mk (k := 3) F sc_are_whole (F.bindsN fun _ _ _ _ _ _ us hl => match us, hl with | [_], _ => rfl) (fun cdv A outer s H E hr => by
    have sc := sc_are_whole
    have hu := hr.units
    have hu1 := hu_of hr
    exact (sss_one (ss_ret (se_all (sab_cons (((sn_lc (own := [("spot", 1)]) (t := (.one 1)) ((si_seq (se_call G_all_spots (hr.mono (by decide)) hg_all_spots tk_def (sa_cons (se_var rfl (i := 0)) (sa_nil rfl))))).sic sc.nd (blkOk_by (by kernel_rfl)) (by decide) (fun s H C cl fp => (sg_one (i := 1) sc.nd)) (fun s H C cl fp => sts_nil) (fun s H C cl fp => (se_notN ((se_call G_meant_at (hr.mono (by decide)) hg_meant_at tk_in (sa_cons (se_var rfl (i := 0)) (sa_cons (se_var rfl (i := 1)) (sa_nil rfl))))).sb)))).se).sb (sab_nil rfl)) h_all))))⟩
theorem sc_check_whole_by : FnScope ["way", "steps"] ["way", "steps"] (defScope (top 46)) := ⟨rfl, rfl, rfl, by decide +kernel, rfl, by decide +kernel, by decide +kernel⟩
theorem F_check_whole_by (T : Fc c w mg) : ∃ ad, mg "check_whole_by" = some (.ref ad) ∧ Fn c P w mg base 5 ad 2 m_check_whole_by := by
  have hC := T.C
  obtain ⟨_, hg_check_way, G_check_way⟩ := F_check_way (P := P) (base := base) T
  obtain ⟨_, hg_check_steps, G_check_steps⟩ := F_check_steps (P := P) (base := base) T
  obtain ⟨_, hg_are_whole, G_are_whole⟩ := F_are_whole (P := P) (base := base) T
  obtain ⟨_, _, hp_Steps_rows, G_Steps_rows⟩ := F_Steps_rows (P := P) (base := base) T
  obtain ⟨ad, fd, hmg, F⟩ := T.f_check_whole_by
  exact ⟨ad, hmg, fn_mk (k := 4) F sc_check_whole_by (F.bindsN fun _ _ _ _ _ _ us hl => match us, hl with | [_, _], _ => rfl) (fun cdv A outer s H E hr => by
    have sc := sc_check_whole_by
    have hu := hr.units
    have hu1 := hu_of hr
    exact (sss_cons (ss_expr (se_call G_check_way (hr.mono (by decide)) hg_check_way tk_def (sa_cons (se_var rfl (i := 0)) (sa_nil rfl))))
    (sss_cons (ss_expr (se_call G_check_steps (hr.mono (by decide)) hg_check_steps tk_def (sa_cons (se_var rfl (i := 1)) (sa_nil rfl))))
    (sss_one (ss_if (st_not (st_val (se_call G_are_whole (hr.mono (by decide)) hg_are_whole tk_def (sa_cons (se_prop (k := 0) (se_var rfl (i := 1)) (hC.sc 0 (by decide)) hp_Steps_rows G_Steps_rows (hr.mono (by decide))) (sa_nil rfl))))) (sss_one (ss_never rfl)) (sss_nil rfl))))))⟩
theorem sc_pointer_in_half : FnScope ["pointer", "rows", "gap", "at", "kind", "number"] ["pointer", "rows", "gap", "at"] (defScope (top 49)) := ⟨rfl, rfl, rfl, by decide +kernel, rfl, by decide +kernel, by decide +kernel⟩
theorem F_pointer_in_half (T : Fc c w mg) : ∃ ad, mg "pointer_in_half" = some (.ref ad) ∧ Fn c P w mg base 1 ad 4 m_pointer_in_half := by
  have h_len := T.g_len
  have hC := T.C
  obtain ⟨ad, fd, hmg, F⟩ := T.f_pointer_in_half
  exact ⟨ad, hmg, fn_mk (k := 0) F sc_pointer_in_half (F.bindsN fun _ _ _ _ _ _ us hl => match us, hl with | [_, _, _, _], _ => rfl) (fun cdv A outer s H E hr => by
    have sc := sc_pointer_in_half
    have hu := hr.units
    have hu1 := hu_of hr
    exact (sss_cons (ss_asgT (t := (.tup [4, 5])) (se_var rfl (i := 0)) (sg_tup (sgs_cons (i := 4) (sgs_cons (i := 5) sgs_nil sc.nd) sc.nd)))
    (sss_cons (ss_if ((sw_and (st_eq hu (sb_var rfl (i := 4)) ((se_str rfl)).sb) (sw_and1 (st_lt (sb_var rfl (i := 3)) (sb_var rfl (i := 2)))))).st (sss_one (ss_ret (se_tup (sa_cons (se_var rfl (i := 4)) (sa_cons (se_sub (sb_var rfl (i := 5)) ((se_sub ((se_len (sab_cons (sb_var rfl (i := 1)) (sab_nil rfl)) h_len)).sb (sb_var rfl (i := 2)))).sb) (sa_nil rfl)))))) (sss_nil rfl))
    (sss_cons (ss_if ((sw_and (st_eq hu (sb_var rfl (i := 4)) ((se_str rfl)).sb) (sw_and1 (st_ge (sb_var rfl (i := 3)) (sb_var rfl (i := 2)))))).st (sss_one (ss_ret (se_tup (sa_cons (se_var rfl (i := 4)) (sa_cons (se_sub (sb_var rfl (i := 5)) (sb_var rfl (i := 2))) (sa_nil rfl)))))) (sss_nil rfl))
    (sss_one (ss_ret (se_var rfl (i := 0))))))))⟩
theorem sc_half_of : FnScope ["rows", "gap", "places", "found", "at", "label", "pointers", "pointer"] ["rows", "gap", "places"] (defScope (top 50)) := ⟨rfl, rfl, rfl, by decide +kernel, rfl, by decide +kernel, by decide +kernel⟩
theorem F_half_of (T : Fc c w mg) : ∃ ad, mg "half_of" = some (.ref ad) ∧ Fn c P w mg base 6 ad 3 m_half_of := by
  have h_tuple := T.g_tuple
  have h_Steps := T.g_Steps
  have hC := T.C
  obtain ⟨_, hg_pointer_in_half, G_pointer_in_half⟩ := F_pointer_in_half (P := P) (base := base) T
  obtain ⟨_, _, mk_Steps, G_Steps_init⟩ := F_Steps_init (P := P) (base := base) T
  obtain ⟨ad, fd, hmg, F⟩ := T.f_half_of
  exact ⟨ad, hmg, fn_mk (k := 5) F sc_half_of (F.bindsN fun _ _ _ _ _ _ us hl => match us, hl with | [_, _, _], _ => rfl) (fun cdv A outer s H E hr => by
    have sc := sc_half_of
    have hu := hr.units
    have hu1 := hu_of hr
    exact (sss_cons (ss_setN (i := 3) (sn_lst (sa_nil rfl)) sc.nd)
    (sss_cons (ss_for (t := (.one 4)) (si_seq (se_var rfl (i := 2))) (sg_one (i := 4) sc.nd) (sss_cons (ss_asgT (t := (.tup [5, 6])) (se_ix (sb_var rfl (i := 0)) (sb_var rfl (i := 4))) (sg_tup (sgs_cons (i := 5) (sgs_cons (i := 6) sgs_nil sc.nd) sc.nd)))
    (sss_one (ss_append (i := 3) (se_tup (sa_cons (se_var rfl (i := 5)) (sa_cons (se_tuple (sab_cons (((sn_lc (own := [("pointer", 7)]) (t := (.one 7)) ((si_seq (se_var rfl (i := 6)))).sic sc.nd (blkOk_by (by kernel_rfl)) (by decide) (fun s H C cl fp => (sg_one (i := 7) sc.nd)) (fun s H C cl fp => sts_nil) (fun s H C cl fp => (se_call G_pointer_in_half (hr.mono (by decide)) hg_pointer_in_half tk_in (sa_cons (se_var rfl (i := 7)) (sa_cons (se_var rfl (i := 0)) (sa_cons (se_var rfl (i := 1)) (sa_cons (se_var rfl (i := 4)) (sa_nil rfl))))))))).se).sb (sab_nil rfl)) h_tuple) (sa_nil rfl))))))) pa_def)
    (sss_one (ss_ret (se_make (kc := 0) (ad := 0) mk_Steps G_Steps_init.1 G_Steps_init.2 (hr.mono (by decide)) h_Steps tk_def (sa_cons (se_tuple (sab_cons (sb_var rfl (i := 3)) (sab_nil rfl)) h_tuple) (sa_nil rfl))))))))⟩
theorem sc_halves_of : FnScope ["rows", "gap"] ["rows", "gap"] (defScope (top 51)) := ⟨rfl, rfl, rfl, by decide +kernel, rfl, by decide +kernel, by decide +kernel⟩
theorem F_halves_of (T : Fc c w mg) : ∃ ad, mg "halves_of" = some (.ref ad) ∧ Fn c P w mg base 7 ad 2 m_halves_of := by
  have h_list := T.g_list
  have h_range := T.g_range
  have h_len := T.g_len
  have hC := T.C
  obtain ⟨_, hg_half_of, G_half_of⟩ := F_half_of (P := P) (base := base) T
  obtain ⟨ad, fd, hmg, F⟩ := T.f_halves_of
  exact ⟨ad, hmg, fn_mk (k := 6) F sc_halves_of (F.bindsN fun _ _ _ _ _ _ us hl => match us, hl with | [_, _], _ => rfl) (fun cdv A outer s H E hr => by
    have sc := sc_halves_of
    have hu := hr.units
    have hu1 := hu_of hr
    exact (sss_one (ss_ret (se_tup (sa_cons (se_call G_half_of (hr.mono (by decide)) hg_half_of tk_def (sa_cons (se_var rfl (i := 0)) (sa_cons (se_var rfl (i := 1)) (sa_cons ((sn_listRg (se_var rfl (i := 1)) h_list h_range)).se (sa_nil rfl))))) (sa_cons (se_call G_half_of (hr.mono (by decide)) hg_half_of tk_def (sa_cons (se_var rfl (i := 0)) (sa_cons (se_var rfl (i := 1)) (sa_cons ((sn_listRg2 (se_var rfl (i := 1)) (se_len (sab_cons (sb_var rfl (i := 0)) (sab_nil rfl)) h_len) h_list h_range)).se (sa_nil rfl))))) (sa_nil rfl)))))))⟩
theorem sc_blocks_of : FnScope ["words", "rows", "gap", "first", "second"] ["words", "rows"] (defScope (top 54)) := ⟨rfl, rfl, rfl, by decide +kernel, rfl, by decide +kernel, by decide +kernel⟩
theorem F_blocks_of (T : Fc c w mg) : ∃ ad, mg "blocks_of" = some (.ref ad) ∧ ∀ fu : Nat, Fn c P w mg base (8 + fu) ad 2 (m_blocks_of fu) := by
  have h_len := T.g_len
  have h_range := T.g_range
  have h_Steps := T.g_Steps
  have hC := T.C
  obtain ⟨_, hg_bars_of, G_bars_of⟩ := F_bars_of (P := P) (base := base) T
  obtain ⟨_, hg_halves_of, G_halves_of⟩ := F_halves_of (P := P) (base := base) T
  obtain ⟨_, _, hp_Steps_rows, G_Steps_rows⟩ := F_Steps_rows (P := P) (base := base) T
  obtain ⟨_, _, mk_Steps, G_Steps_init⟩ := F_Steps_init (P := P) (base := base) T
  obtain ⟨ad, fd, hmg, F⟩ := T.f_blocks_of
  have hb : Binds c.K fd ["words", "rows"] [] := (F.bindsN fun _ _ _ _ _ _ us hl => match us, hl with | [_, _], _ => rfl)
  refine ⟨ad, hmg, fun fu => ?_⟩
  induction fu with
  | zero => exact ⟨fun A outer s H us vs Q E hr e0 r ⟨_, _, _, _, _, _, q⟩ => q.elim, F.kp⟩
  | succ fu ih =>
    refine fn_mk (k := 8 + fu) F sc_blocks_of hb fun cdv A outer s H E hr => by
      have sc := sc_blocks_of
      have hu := hr.units
      have hu1 := hu_of hr
      exact (sss_cons (ss_for (t := (.one 2)) (si_range2 (sa_cons (se_int rfl) (sa_cons (se_len (sab_cons (sb_var rfl (i := 1)) (sab_nil rfl)) h_len) (sa_nil rfl))) h_range) (sg_one (i := 2) sc.nd) (sss_one (ss_if (st_eq hu ((se_call G_bars_of (hr.mono (by omega)) hg_bars_of tk_def (sa_cons (se_var rfl (i := 0)) (sa_cons (se_var rfl (i := 1)) (sa_cons (se_var rfl (i := 2)) (sa_nil rfl)))))).sb (((sn_lst (sa_nil rfl))).se).sb) (sss_cons (ss_asgT (t := (.tup [3, 4])) (se_call G_halves_of (hr.mono (by omega)) hg_halves_of tk_def (sa_cons (se_var rfl (i := 1)) (sa_cons (se_var rfl (i := 2)) (sa_nil rfl)))) (sg_tup (sgs_cons (i := 3) (sgs_cons (i := 4) sgs_nil sc.nd) sc.nd)))
      (sss_one (ss_ret ((sn_lst (sa_cons (se_var rfl (i := 3)) (sa_star ((se_call ih (hr.mono (by omega)) hmg tk_def (sa_cons (se_var rfl (i := 0)) (sa_cons (se_prop (k := 0) (se_var rfl (i := 4)) (hC.sc 0 (by decide)) hp_Steps_rows G_Steps_rows (hr.mono (by omega))) (sa_nil rfl))))).sb (sa_nil rfl))))).se))) (sss_nil rfl))) pa_def)
      (sss_one (ss_ret (se_if (st_ne hu (sb_var rfl (i := 1)) ((se_tup (sa_nil rfl))).sb) ((sn_lst (sa_cons (se_make (kc := 0) (ad := 0) mk_Steps G_Steps_init.1 G_Steps_init.2 (hr.mono (by omega)) h_Steps tk_def (sa_cons (se_var rfl (i := 1)) (sa_nil rfl))) (sa_nil rfl)))).se ((sn_lst (sa_nil rfl))).se))))
theorem sc_blocks : FnScope ["way", "steps"] ["way", "steps"] (defScope (top 57)) := ⟨rfl, rfl, rfl, by decide +kernel, rfl, by decide +kernel, by decide +kernel⟩
theorem F_blocks (T : Fc c w mg) : ∃ ad, mg "blocks" = some (.ref ad) ∧ Fn c P w mg base 17 ad 2 m_blocks := by
  have hC := T.C
  obtain ⟨_, hg_check_whole_by, G_check_whole_by⟩ := F_check_whole_by (P := P) (base := base) T
  obtain ⟨_, hg_blocks_of, G_blocks_of⟩ := F_blocks_of (P := P) (base := base) T
  obtain ⟨_, _, hp_Way_words, G_Way_words⟩ := F_Way_words (P := P) (base := base) T
  obtain ⟨_, _, hp_Steps_rows, G_Steps_rows⟩ := F_Steps_rows (P := P) (base := base) T
  obtain ⟨ad, fd, hmg, F⟩ := T.f_blocks
  exact ⟨ad, hmg, fn_mk (k := 16) F sc_blocks (F.bindsN fun _ _ _ _ _ _ us hl => match us, hl with | [_, _], _ => rfl) (fun cdv A outer s H E hr => by
    have sc := sc_blocks
    have hu := hr.units
    have hu1 := hu_of hr
    exact (sss_cons (ss_expr (se_call G_check_whole_by (hr.mono (by decide)) hg_check_whole_by tk_def (sa_cons (se_var rfl (i := 0)) (sa_cons (se_var rfl (i := 1)) (sa_nil rfl)))))
    (sss_one (ss_ret (se_call (G_blocks_of 8) (hr.mono (by decide)) hg_blocks_of tk_def (sa_cons (se_prop (k := 1) (se_var rfl (i := 0)) (hC.sc 1 (by decide)) hp_Way_words G_Way_words (hr.mono (by decide))) (sa_cons (se_prop (k := 0) (se_var rfl (i := 1)) (hC.sc 0 (by decide)) hp_Steps_rows G_Steps_rows (hr.mono (by decide))) (sa_nil rfl))))))))⟩
theorem sc__law_blocks : FnScope ["_law_words_here", "_law_rows_here", "_law_turn", "_law_found", "_law_rest", "_law_some", "_law_gap", "_law_both"] ["_law_words_here", "_law_rows_here"] (defScope (top 80)) := ⟨rfl, rfl, rfl, by decide +kernel, rfl, by decide +kernel, by decide +kernel⟩
theorem F__law_blocks (T : Fc c w mg) : ∃ ad, mg "_law_blocks" = some (.ref ad) ∧ Fn c P w mg base 6 ad 2 m__law_blocks := by
  have h_len := T.g_len
  have h_range := T.g_range
  have hC := T.C
  obtain ⟨_, hg__law_halves, G__law_halves⟩ := F__law_halves (P := P) (base := base) T
  obtain ⟨ad, fd, hmg, F⟩ := T.f__law_blocks
  exact ⟨ad, hmg, fn_mk (k := 5) F sc__law_blocks (F.bindsN fun _ _ _ _ _ _ us hl => match us, hl with | [_, _], _ => rfl) (fun cdv A outer s H E hr => by
    have sc := sc__law_blocks
    have hu := hr.units
    have hu1 := hu_of hr
    exact (sss_cons (ss_parC (is := [3, 4]) (sam_own (sn_lst (sa_nil rfl)) (sam_val (se_var rfl (i := 1)) (sam_nil rfl))) (sg_tup (sgs_cons (i := 3) (sgs_cons (i := 4) sgs_nil sc.nd) sc.nd)))
    (sss_cons (ss_for (t := (.one 2)) (si_range1 (sa_cons (se_len (sab_cons (sb_var rfl (i := 1)) (sab_nil rfl)) h_len) (sa_nil rfl)) h_range) (sg_one (i := 2) sc.nd) (sss_cons (ss_setLc (i := 5) (own := [("_law_gap", 6)]) (t := (.one 6)) ((si_range2 (sa_cons (se_int rfl) (sa_cons (se_add ((se_len (sab_cons (sb_var rfl (i := 4)) (sab_nil rfl)) h_len)).sb ((se_int rfl)).sb) (sa_nil rfl))) h_range)).sic sc.nd (blkOk_by (by kernel_rfl)) (by decide) (fun s H C cl fp => (sg_one (i := 6) sc.nd)) (fun s H C cl fp => sts_nil) (fun s H C cl fp => (se_call G__law_halves (hr.mono (by decide)) hg__law_halves tk_in (sa_cons (se_var rfl (i := 0)) (sa_cons (se_var rfl (i := 4)) (sa_cons (se_var rfl (i := 6)) (sa_nil rfl)))))))
    (sss_cons (ss_setLc (i := 5) (own := [("_law_both", 7)]) (t := (.one 7)) (sic_own (sb_var rfl (i := 5))) sc.nd (blkOk_by (by kernel_rfl)) (by decide) (fun s H C cl fp => (sg_one (i := 7) sc.nd)) (fun s H C cl fp => (sts_one (st_notN (sb_var rfl (i := 7))))) (fun s H C cl fp => (se_var rfl (i := 7))))
    (sss_one (ss_if (st_ne hu (sb_var rfl (i := 5)) (((sn_lst (sa_nil rfl))).se).sb) (sss_cons (ss_append (i := 3) (se_ix ((se_ix (sb_var rfl (i := 5)) ((se_int rfl)).sb)).sb ((se_int rfl)).sb))
    (sss_one (ss_set (i := 4) (se_ix ((se_ix (sb_var rfl (i := 5)) ((se_int rfl)).sb)).sb ((se_int rfl)).sb) sc.nd))) (sss_nil rfl))))) pa_def)
    (sss_one (ss_frz [3] (ss_ret (se_var rfl (i := 3))))))))⟩
theorem sc_check_gap : FnScope ["way", "steps", "gap"] ["way", "steps", "gap"] (defScope (top 45)) := ⟨rfl, rfl, rfl, by decide +kernel, rfl, by decide +kernel, by decide +kernel⟩
theorem F_check_gap (T : Fc c w mg) : ∃ ad, mg "check_gap" = some (.ref ad) ∧ Fn c P w mg base 3 ad 3 m_check_gap := by
  have h_len := T.g_len
  have hC := T.C
  obtain ⟨_, hg_check_way, G_check_way⟩ := F_check_way (P := P) (base := base) T
  obtain ⟨_, hg_check_steps, G_check_steps⟩ := F_check_steps (P := P) (base := base) T
  obtain ⟨_, hg_is_number, G_is_number⟩ := F_is_number (P := P) (base := base) T
  obtain ⟨_, hm_Steps_len, G_Steps_len⟩ := F_Steps_len (P := P) (base := base) T
  obtain ⟨ad, fd, hmg, F⟩ := T.f_check_gap
  exact ⟨ad, hmg, fn_mk (k := 2) F sc_check_gap (F.bindsN fun _ _ _ _ _ _ us hl => match us, hl with | [_, _, _], _ => rfl) (fun cdv A outer s H E hr => by
    have sc := sc_check_gap
    have hu := hr.units
    have hu1 := hu_of hr
    exact (sss_cons (ss_expr (se_call G_check_way (hr.mono (by decide)) hg_check_way tk_def (sa_cons (se_var rfl (i := 0)) (sa_nil rfl))))
    (sss_cons (ss_expr (se_call G_check_steps (hr.mono (by decide)) hg_check_steps tk_def (sa_cons (se_var rfl (i := 1)) (sa_nil rfl))))
    (sss_one (ss_if (st_not (st_val (se_call G_is_number (hr.mono (by decide)) hg_is_number tk_def (sa_cons (se_var rfl (i := 2)) (sa_cons (se_int rfl) (sa_cons (se_lenO (k := 0) (se_var rfl (i := 1)) h_len (hC.sc 0 (by decide)) hm_Steps_len G_Steps_len (hr.mono (by decide))) (sa_nil rfl))))))) (sss_one (ss_never rfl)) (sss_nil rfl))))))⟩
theorem sc_Barred_init : FnScope ["self", "spot"] ["self", "spot"] (defScope (inClass (top 53) 1)) := ⟨rfl, rfl, rfl, by decide +kernel, rfl, by decide +kernel, by decide +kernel⟩
theorem F_Barred_init (T : Fc c w mg) : ∃ ad fd, Mk c.K (c.cls 3) ad ∧ FnOk P w c.K mg base (L2.CX P w) 1 ad fd ["self", "spot"] (PromI c 1 3 m_Barred_init) ∧ Binds c.K fd ["self", "spot"] [] := by
  obtain ⟨_, hs_Barred_spot⟩ := T.s_Barred_spot
  have hC := T.C
  obtain ⟨ad, fd, hM, F⟩ := T.f_Barred_init
  exact ⟨ad, fd, hM, initOk_mk (k := 0) F sc_Barred_init rfl (by decide) (fun cdv A outer s H E hr => by
    have sc := sc_Barred_init
    have hu := hr.units
    have hu1 := hu_of hr
    exact (sss_one (ss_self (k := 3) (i := 0) (se_var rfl (i := 1)) (hC.sc 3 (by decide)) hs_Barred_spot))), (F.bindsN fun _ _ _ _ _ _ us hl => match us, hl with | [_, _], _ => rfl)⟩
theorem sc_Halves_init : FnScope ["self", "first", "second"] ["self", "first", "second"] (defScope (inClass (top 52) 1)) := ⟨rfl, rfl, rfl, by decide +kernel, rfl, by decide +kernel, by decide +kernel⟩
theorem F_Halves_init (T : Fc c w mg) : ∃ ad fd, Mk c.K (c.cls 2) ad ∧ FnOk P w c.K mg base (L2.CX P w) 1 ad fd ["self", "first", "second"] (PromI c 2 2 m_Halves_init) ∧ Binds c.K fd ["self", "first", "second"] [] := by
  obtain ⟨_, hs_Halves_first⟩ := T.s_Halves_first
  obtain ⟨_, hs_Halves_second⟩ := T.s_Halves_second
  have hC := T.C
  obtain ⟨ad, fd, hM, F⟩ := T.f_Halves_init
  exact ⟨ad, fd, hM, initOk_mk (k := 0) F sc_Halves_init rfl (by decide) (fun cdv A outer s H E hr => by
    have sc := sc_Halves_init
    have hu := hr.units
    have hu1 := hu_of hr
    exact (sss_cons (ss_self (k := 2) (i := 0) (se_var rfl (i := 1)) (hC.sc 2 (by decide)) hs_Halves_first)
    (sss_one (ss_self (k := 2) (i := 1) (se_var rfl (i := 2)) (hC.sc 2 (by decide)) hs_Halves_second)))), (F.bindsN fun _ _ _ _ _ _ us hl => match us, hl with | [_, _, _], _ => rfl)⟩
theorem sc_take_apart : FnScope ["way", "steps", "gap", "bars", "first", "second"] ["way", "steps", "gap"] (defScope (top 55)) := ⟨rfl, rfl, rfl, by decide +kernel, rfl, by decide +kernel, by decide +kernel⟩
theorem F_take_apart (T : Fc c w mg) : ∃ ad, mg "take_apart" = some (.ref ad) ∧ Fn c P w mg base 8 ad 3 m_take_apart := by
  have h_Barred := T.g_Barred
  have h_Halves := T.g_Halves
  have hC := T.C
  obtain ⟨_, hg_check_gap, G_check_gap⟩ := F_check_gap (P := P) (base := base) T
  obtain ⟨_, hg_bars_of, G_bars_of⟩ := F_bars_of (P := P) (base := base) T
  obtain ⟨_, _, hp_Way_words, G_Way_words⟩ := F_Way_words (P := P) (base := base) T
  obtain ⟨_, _, hp_Steps_rows, G_Steps_rows⟩ := F_Steps_rows (P := P) (base := base) T
  obtain ⟨_, _, mk_Barred, G_Barred_init⟩ := F_Barred_init (P := P) (base := base) T
  obtain ⟨_, hg_halves_of, G_halves_of⟩ := F_halves_of (P := P) (base := base) T
  obtain ⟨_, _, mk_Halves, G_Halves_init⟩ := F_Halves_init (P := P) (base := base) T
  obtain ⟨ad, fd, hmg, F⟩ := T.f_take_apart
  exact ⟨ad, hmg, fn_mk (k := 7) F sc_take_apart (F.bindsN fun _ _ _ _ _ _ us hl => match us, hl with | [_, _, _], _ => rfl) (fun cdv A outer s H E hr => by
    have sc := sc_take_apart
    have hu := hr.units
    have hu1 := hu_of hr
    exact (sss_cons (ss_expr (se_call G_check_gap (hr.mono (by decide)) hg_check_gap tk_def (sa_cons (se_var rfl (i := 0)) (sa_cons (se_var rfl (i := 1)) (sa_cons (se_var rfl (i := 2)) (sa_nil rfl))))))
    (sss_cons (ss_set (i := 3) (se_call G_bars_of (hr.mono (by decide)) hg_bars_of tk_def (sa_cons (se_prop (k := 1) (se_var rfl (i := 0)) (hC.sc 1 (by decide)) hp_Way_words G_Way_words (hr.mono (by decide))) (sa_cons (se_prop (k := 0) (se_var rfl (i := 1)) (hC.sc 0 (by decide)) hp_Steps_rows G_Steps_rows (hr.mono (by decide))) (sa_cons (se_var rfl (i := 2)) (sa_nil rfl))))) sc.nd)
    (sss_cons (ss_if (st_ne hu (sb_var rfl (i := 3)) (((sn_lst (sa_nil rfl))).se).sb) (sss_one (ss_ret (se_make (kc := 3) (ad := 0) mk_Barred G_Barred_init.1 G_Barred_init.2 (hr.mono (by decide)) h_Barred tk_def (sa_cons (se_ix (sb_var rfl (i := 3)) ((se_int rfl)).sb) (sa_nil rfl))))) (sss_nil rfl))
    (sss_cons (ss_asgT (t := (.tup [4, 5])) (se_call G_halves_of (hr.mono (by decide)) hg_halves_of tk_def (sa_cons (se_prop (k := 0) (se_var rfl (i := 1)) (hC.sc 0 (by decide)) hp_Steps_rows G_Steps_rows (hr.mono (by decide))) (sa_cons (se_var rfl (i := 2)) (sa_nil rfl)))) (sg_tup (sgs_cons (i := 4) (sgs_cons (i := 5) sgs_nil sc.nd) sc.nd)))
    (sss_one (ss_ret (se_make (kc := 2) (ad := 0) mk_Halves G_Halves_init.1 G_Halves_init.2 (hr.mono (by decide)) h_Halves tk_def (sa_cons (se_var rfl (i := 4)) (sa_cons (se_var rfl (i := 5)) (sa_nil rfl)))))))))))⟩
theorem sc_sources : FnScope ["rows", "edit", "found", "at", "one"] ["rows", "edit"] (defScope (top 33)) := ⟨rfl, rfl, rfl, by decide +kernel, rfl, by decide +kernel, by decide +kernel⟩
theorem F_sources (T : Fc c w mg) : ∃ ad, mg "sources" = some (.ref ad) ∧ Fn c P w mg base 1 ad 2 m_sources := by
  have h_len := T.g_len
  have h_range := T.g_range
  have hC := T.C
  obtain ⟨ad, fd, hmg, F⟩ := T.f_sources
  exact ⟨ad, hmg, fn_mk (k := 0) F sc_sources (F.bindsN fun _ _ _ _ _ _ us hl => match us, hl with | [_, _], _ => rfl) (fun cdv A outer s H E hr => by
    have sc := sc_sources
    have hu := hr.units
    have hu1 := hu_of hr
    exact (sss_cons (ss_setLc (i := 2) (own := [("at", 3)]) (t := (.one 3)) ((si_range1 (sa_cons (se_len (sab_cons (sb_var rfl (i := 0)) (sab_nil rfl)) h_len) (sa_nil rfl)) h_range)).sic sc.nd (blkOk_by (by kernel_rfl)) (by decide) (fun s H C cl fp => (sg_one (i := 3) sc.nd)) (fun s H C cl fp => sts_nil) (fun s H C cl fp => (se_tup (sa_cons (se_str rfl) (sa_cons (se_var rfl (i := 3)) (sa_cons (se_bl rfl) (sa_nil rfl)))))))
    (sss_cons (ss_if (st_eq hu ((se_ix (sb_var rfl (i := 1)) ((se_int rfl)).sb)).sb ((se_str rfl)).sb) (sss_one (ss_insert (i := 2) (sa_cons (se_ix (sb_var rfl (i := 1)) ((se_int rfl)).sb) (sa_cons (se_non rfl) (sa_nil rfl))))) (sss_one (ss_if (st_eq hu ((se_ix (sb_var rfl (i := 1)) ((se_int rfl)).sb)).sb ((se_str rfl)).sb) (sss_one (ss_pop (i := 2) (se_ix (sb_var rfl (i := 1)) ((se_int rfl)).sb))) (sss_one (ss_if (st_eq hu ((se_ix (sb_var rfl (i := 1)) ((se_int rfl)).sb)).sb ((se_str rfl)).sb) (sss_cons (ss_setPop (i := 2) (j := 4) (se_ix (sb_var rfl (i := 1)) ((se_int rfl)).sb) sc.nd)
    (sss_one (ss_insert (i := 2) (sa_cons (se_ix (sb_var rfl (i := 1)) ((se_int rfl)).sb) (sa_cons (se_var rfl (i := 4)) (sa_nil rfl)))))) (sss_one (ss_if (st_eq hu ((se_ix (sb_var rfl (i := 1)) ((se_int rfl)).sb)).sb ((se_str rfl)).sb) (sss_one (ss_insert (i := 2) (sa_cons (se_ix (sb_var rfl (i := 1)) ((se_int rfl)).sb) (sa_cons (se_tup (sa_cons (se_str rfl) (sa_cons (se_ix (sb_var rfl (i := 1)) ((se_int rfl)).sb) (sa_cons (se_bl rfl) (sa_nil rfl))))) (sa_nil rfl))))) (sss_one (ss_setN (i := 2) (sn_lst (sa_star (sb_var rfl (i := 2)) (sa_star (((sn_lc (own := [("at", 3)]) (t := (.one 3)) ((si_range1 (sa_cons (se_len (sab_cons ((se_ix (sb_var rfl (i := 1)) ((se_int rfl)).sb)).sb (sab_nil rfl)) h_len) (sa_nil rfl)) h_range)).sic sc.nd (blkOk_by (by kernel_rfl)) (by decide) (fun s H C cl fp => (sg_one (i := 3) sc.nd)) (fun s H C cl fp => sts_nil) (fun s H C cl fp => (se_tup (sa_cons (se_str rfl) (sa_cons (se_var rfl (i := 3)) (sa_cons (se_bl rfl) (sa_nil rfl)))))))).se).sb (sa_nil rfl)))) sc.nd)))))))))
    (sss_one (ss_frz [2] (ss_ret (se_var rfl (i := 2))))))))⟩
theorem sc_standing : FnScope ["found", "where", "at"] ["found", "where", "at"] (defScope (top 34)) := ⟨rfl, rfl, rfl, by decide +kernel, rfl, by decide +kernel, by decide +kernel⟩
theorem F_standing (T : Fc c w mg) : ∃ ad, mg "standing" = some (.ref ad) ∧ Fn c P w mg base 1 ad 3 m_standing := by
  have hC := T.C
  obtain ⟨ad, fd, hmg, F⟩ := T.f_standing
  exact ⟨ad, hmg, fn_mk (k := 0) F sc_standing (F.bindsN fun _ _ _ _ _ _ us hl => match us, hl with | [_, _, _], _ => rfl) (fun cdv A outer s H E hr => by
    have sc := sc_standing
    have hu := hr.units
    have hu1 := hu_of hr
    exact (sss_one (ss_ret (se_if (st_in hu ((se_tup (sa_cons (se_var rfl (i := 1)) (sa_cons (se_var rfl (i := 2)) (sa_cons (se_bl rfl) (sa_nil rfl)))))).sb (sb_var rfl (i := 0))) (se_index (sb_var rfl (i := 0)) (se_tup (sa_cons (se_var rfl (i := 1)) (sa_cons (se_var rfl (i := 2)) (sa_cons (se_bl rfl) (sa_nil rfl))))) hu) (se_non rfl)))))⟩
theorem sc_pointing : FnScope ["kind", "here", "there", "many", "number", "low"] ["kind", "here", "there", "many"] (defScope (top 35)) := ⟨rfl, rfl, rfl, by decide +kernel, rfl, by decide +kernel, by decide +kernel⟩
theorem F_pointing (T : Fc c w mg) : ∃ ad, mg "pointing" = some (.ref ad) ∧ Fn c P w mg base 2 ad 4 m_pointing := by
  obtain ⟨_, h_MOST_NUMBER⟩ := T.g_MOST_NUMBER
  have hC := T.C
  obtain ⟨_, hg_is_number, G_is_number⟩ := F_is_number (P := P) (base := base) T
  obtain ⟨ad, fd, hmg, F⟩ := T.f_pointing
  exact ⟨ad, hmg, fn_mk (k := 1) F sc_pointing (F.bindsN fun _ _ _ _ _ _ us hl => match us, hl with | [_, _, _, _], _ => rfl) (fun cdv A outer s H E hr => by
    have sc := sc_pointing
    have hu := hr.units
    have hu1 := hu_of hr
    exact (sss_cons (ss_set (i := 4) (se_var rfl (i := 2)) sc.nd)
    (sss_cons (ss_if (st_eq hu (sb_var rfl (i := 0)) ((se_str rfl)).sb) (sss_one (ss_set (i := 4) (se_sub (sb_var rfl (i := 1)) (sb_var rfl (i := 2))) sc.nd)) (sss_one (ss_if (st_eq hu (sb_var rfl (i := 0)) ((se_str rfl)).sb) (sss_one (ss_set (i := 4) (se_sub (sb_var rfl (i := 2)) (sb_var rfl (i := 1))) sc.nd)) (sss_one (ss_if (st_eq hu (sb_var rfl (i := 0)) ((se_str rfl)).sb) (sss_one (ss_set (i := 4) (se_sub ((se_sub (sb_var rfl (i := 3)) ((se_int rfl)).sb)).sb (sb_var rfl (i := 2))) sc.nd)) (sss_nil rfl))))))
    (sss_cons (ss_set (i := 5) (se_if (st_in hu (sb_var rfl (i := 0)) ((se_tup (sa_cons (se_str rfl) (sa_cons (se_str rfl) (sa_nil rfl))))).sb) (se_int rfl) (se_int rfl)) sc.nd)
    (sss_one (ss_ret (se_if (st_val (se_call G_is_number (hr.mono (by decide)) hg_is_number tk_def (sa_cons (se_var rfl (i := 4)) (sa_cons (se_var rfl (i := 5)) (sa_cons (se_glob rfl (by rfl) h_MOST_NUMBER.1 h_MOST_NUMBER.2 (fun _ => .int _)) (sa_nil rfl)))))) (se_tup (sa_cons (se_var rfl (i := 0)) (sa_cons (se_var rfl (i := 4)) (sa_nil rfl)))) (se_non rfl))))))))⟩
theorem sc_kept : FnScope ["words", "edit", "pointer", "here", "there", "many", "word", "found"] ["words", "edit", "pointer", "here", "there", "many"] (defScope (top 36)) := ⟨rfl, rfl, rfl, by decide +kernel, rfl, by decide +kernel, by decide +kernel⟩
theorem F_kept (T : Fc c w mg) : ∃ ad, mg "kept" = some (.ref ad) ∧ Fn c P w mg base 3 ad 6 m_kept := by
  obtain ⟨_, h_KINDS⟩ := T.g_KINDS
  have hC := T.C
  obtain ⟨_, hg_pointing, G_pointing⟩ := F_pointing (P := P) (base := base) T
  obtain ⟨ad, fd, hmg, F⟩ := T.f_kept
  exact ⟨ad, hmg, fn_mk (k := 2) F sc_kept (F.bindsN fun _ _ _ _ _ _ us hl => match us, hl with | [_, _, _, _, _, _], _ => rfl) (fun cdv A outer s H E hr => by
    have sc := sc_kept
    have hu := hr.units
    have hu1 := hu_of hr
    exact (sss_cons (ss_if ((sw_or (st_eq hu ((se_ix (sb_var rfl (i := 2)) ((se_int rfl)).sb)).sb ((se_str rfl)).sb) (sw_or1 (st_isN (sb_var rfl (i := 4)))))).st (sss_one (ss_ret (se_var rfl (i := 2)))) (sss_nil rfl))
    (sss_cons (ss_set (i := 6) (se_ix (sb_var rfl (i := 0)) ((se_kidx h_KINDS.2 (by rfl) h_KINDS.1 (se_ix (sb_var rfl (i := 2)) ((se_int rfl)).sb))).sb) sc.nd)
    (sss_cons (ss_if ((sw_or (st_eq hu (sb_var rfl (i := 6)) ((se_str rfl)).sb) (sw_or1 ((sw_and (st_eq hu (sb_var rfl (i := 6)) ((se_str rfl)).sb) (sw_and1 (st_eq hu ((se_ix (sb_var rfl (i := 1)) ((se_int rfl)).sb)).sb ((se_str rfl)).sb)))).st))).st (sss_one (ss_ret (se_var rfl (i := 2)))) (sss_nil rfl))
    (sss_cons (ss_set (i := 7) (se_call G_pointing (hr.mono (by decide)) hg_pointing tk_def (sa_cons (se_ix (sb_var rfl (i := 2)) ((se_int rfl)).sb) (sa_cons (se_var rfl (i := 3)) (sa_cons (se_var rfl (i := 4)) (sa_cons (se_var rfl (i := 5)) (sa_nil rfl)))))) sc.nd)
    (sss_one (ss_ret (se_if (st_isN (sb_var rfl (i := 7))) (se_var rfl (i := 2)) (se_var rfl (i := 7))))))))))⟩
theorem sc_label_of : FnScope ["rows", "edit", "one"] ["rows", "edit", "one"] (defScope (top 38)) := ⟨rfl, rfl, rfl, by decide +kernel, rfl, by decide +kernel, by decide +kernel⟩
theorem F_label_of (T : Fc c w mg) : ∃ ad, mg "label_of" = some (.ref ad) ∧ Fn c P w mg base 1 ad 3 m_label_of := by
  have hC := T.C
  obtain ⟨ad, fd, hmg, F⟩ := T.f_label_of
  exact ⟨ad, hmg, fn_mk (k := 0) F sc_label_of (F.bindsN fun _ _ _ _ _ _ us hl => match us, hl with | [_, _, _], _ => rfl) (fun cdv A outer s H E hr => by
    have sc := sc_label_of
    have hu := hr.units
    have hu1 := hu_of hr
    exact (sss_one (ss_ret (se_if (st_eq hu ((se_ix (sb_var rfl (i := 2)) ((se_int rfl)).sb)).sb ((se_str rfl)).sb) (se_ix ((se_ix (sb_var rfl (i := 0)) ((se_ix (sb_var rfl (i := 2)) ((se_int rfl)).sb)).sb)).sb ((se_int rfl)).sb) (se_ix ((se_ix ((se_ix (sb_var rfl (i := 1)) ((se_int rfl)).sb)).sb ((se_ix (sb_var rfl (i := 2)) ((se_int rfl)).sb)).sb)).sb ((se_int rfl)).sb)))))⟩
theorem sc_edited : FnScope ["words", "rows", "edit", "rows_then", "lost", "found", "later", "due", "here", "one", "pointers", "place", "meant", "there", "now", "lines", "pointer"] ["words", "rows", "edit"] (defScope (top 37)) := ⟨rfl, rfl, rfl, by decide +kernel, rfl, by decide +kernel, by decide +kernel⟩
theorem F_edited (T : Fc c w mg) : ∃ ad, mg "edited" = some (.ref ad) ∧ Fn c P w mg base 4 ad 3 m_edited := by
  have h_enumerate := T.g_enumerate
  have h_len := T.g_len
  have h_tuple := T.g_tuple
  have hC := T.C
  obtain ⟨_, hg_sources, G_sources⟩ := F_sources (P := P) (base := base) T
  obtain ⟨_, hg_meaning, G_meaning⟩ := F_meaning (P := P) (base := base) T
  obtain ⟨_, hg_standing, G_standing⟩ := F_standing (P := P) (base := base) T
  obtain ⟨_, hg_kept, G_kept⟩ := F_kept (P := P) (base := base) T
  obtain ⟨_, hg_label_of, G_label_of⟩ := F_label_of (P := P) (base := base) T
  obtain ⟨ad, fd, hmg, F⟩ := T.f_edited
  exact ⟨ad, hmg, fn_mk (k := 3) F sc_edited (F.bindsN fun _ _ _ _ _ _ us hl => match us, hl with | [_, _, _], _ => rfl) (fun cdv A outer s H E hr => by
    have sc := sc_edited
    have hu := hr.units
    have hu1 := hu_of hr
    exact (sss_cons (ss_parS3 (i := 5) (j := 6) (l := 7) (sam_val (se_call G_sources (hr.mono (by decide)) hg_sources tk_def (sa_cons (se_var rfl (i := 1)) (sa_cons (se_var rfl (i := 2)) (sa_nil rfl)))) (sam_own (sn_lst (sa_nil rfl)) (sam_own (sn_lst (sa_nil rfl)) (sam_nil rfl)))) sc.nd)
    (sss_cons (ss_for (t := (.tup [8, 9])) (si_enum (se_var rfl (i := 5)) h_enumerate) (sg_tup (sgs_cons (i := 8) (sgs_cons (i := 9) sgs_nil sc.nd) sc.nd)) (sss_cons (ss_setN (i := 10) (sn_lst (sa_nil rfl)) sc.nd)
    (sss_cons (ss_if (st_notN (sb_var rfl (i := 9))) (sss_cons (ss_set (i := 15) (se_if (st_eq hu ((se_ix (sb_var rfl (i := 9)) ((se_int rfl)).sb)).sb ((se_str rfl)).sb) (se_var rfl (i := 1)) (se_ix (sb_var rfl (i := 2)) ((se_int rfl)).sb)) sc.nd)
    (sss_one (ss_for (t := (.one 16)) (si_seq (se_ix ((se_ix (sb_var rfl (i := 15)) ((se_ix (sb_var rfl (i := 9)) ((se_int rfl)).sb)).sb)).sb ((se_int rfl)).sb)) (sg_one (i := 16) sc.nd) (sss_cons (ss_set (i := 12) (se_call G_meaning (hr.mono (by decide)) hg_meaning tk_def (sa_cons (se_var rfl (i := 15)) (sa_cons (se_ix (sb_var rfl (i := 9)) ((se_int rfl)).sb) (sa_cons (se_var rfl (i := 16)) (sa_nil rfl))))) sc.nd)
    (sss_cons (ss_set (i := 13) (se_if (st_isN (sb_var rfl (i := 12))) (se_non rfl) (se_call G_standing (hr.mono (by decide)) hg_standing tk_def (sa_cons (se_var rfl (i := 5)) (sa_cons (se_ix (sb_var rfl (i := 9)) ((se_int rfl)).sb) (sa_cons (se_var rfl (i := 12)) (sa_nil rfl)))))) sc.nd)
    (sss_cons (ss_append (i := 7) (se_tup (sa_cons (se_var rfl (i := 8)) (sa_cons (se_len (sab_cons (sb_var rfl (i := 10)) (sab_nil rfl)) h_len) (sa_cons (se_var rfl (i := 12)) (sa_cons (se_var rfl (i := 13)) (sa_nil rfl)))))))
    (sss_one (ss_append (i := 10) (se_call G_kept (hr.mono (by decide)) hg_kept tk_def (sa_cons (se_var rfl (i := 0)) (sa_cons (se_var rfl (i := 2)) (sa_cons (se_var rfl (i := 16)) (sa_cons (se_var rfl (i := 8)) (sa_cons (se_var rfl (i := 13)) (sa_cons (se_len (sab_cons (sb_var rfl (i := 5)) (sab_nil rfl)) h_len) (sa_nil rfl))))))))))))) pa_def))) (sss_nil rfl))
    (sss_one (ss_append (i := 6) (se_tup (sa_cons (se_if (st_isN (sb_var rfl (i := 9))) (se_non rfl) (se_call G_label_of (hr.mono (by decide)) hg_label_of tk_def (sa_cons (se_var rfl (i := 1)) (sa_cons (se_var rfl (i := 2)) (sa_cons (se_var rfl (i := 9)) (sa_nil rfl)))))) (sa_cons (se_tuple (sab_cons (sb_var rfl (i := 10)) (sab_nil rfl)) h_tuple) (sa_nil rfl)))))))) pa_def)
    (sss_cons (ss_set (i := 3) (se_tuple (sab_cons (sb_var rfl (i := 6)) (sab_nil rfl)) h_tuple) sc.nd)
    (sss_cons (ss_setN (i := 4) (sn_lst (sa_nil rfl)) sc.nd)
    (sss_cons (ss_frz [7] (ss_for (t := (.tup [8, 11, 12, 13])) (si_seq (se_var rfl (i := 7))) (sg_tup (sgs_cons (i := 8) (sgs_cons (i := 11) (sgs_cons (i := 12) (sgs_cons (i := 13) sgs_nil sc.nd) sc.nd) sc.nd) sc.nd)) (sss_cons (ss_set (i := 14) (se_call G_meaning (hr.mono (by decide)) hg_meaning tk_def (sa_cons (se_var rfl (i := 3)) (sa_cons (se_var rfl (i := 8)) (sa_cons (se_ix ((se_ix ((se_ix (sb_var rfl (i := 3)) (sb_var rfl (i := 8)))).sb ((se_int rfl)).sb)).sb (sb_var rfl (i := 11))) (sa_nil rfl))))) sc.nd)
    (sss_one (ss_if ((sw_and (st_notN (sb_var rfl (i := 12))) (sw_and1 ((sw_or (st_isN (sb_var rfl (i := 13))) (sw_or1 (st_ne hu (sb_var rfl (i := 14)) (sb_var rfl (i := 13)))))).st))).st (sss_one (ss_append (i := 4) (se_tup (sa_cons (se_var rfl (i := 8)) (sa_cons (se_var rfl (i := 11)) (sa_nil rfl)))))) (sss_nil rfl)))) pa_def))
    (sss_one (ss_frz [4] (ss_ret (se_tup (sa_cons (se_var rfl (i := 3)) (sa_cons (se_var rfl (i := 4)) (sa_nil rfl)))))))))))))⟩
theorem sc_Halves_shows : FnScope ["self", "way", "steps", "gap", "one", "other"] ["self", "way", "steps", "gap"] (defScope (inClass (top 52) 3)) := ⟨rfl, rfl, rfl, by decide +kernel, rfl, by decide +kernel, by decide +kernel⟩
theorem F_Halves_shows (T : Fc c w mg) : ∃ ad, Meth c.K (c.cls 2) "shows" ad ∧ Fn c P w mg base 5 ad 4 m_Halves_shows := by
  obtain ⟨_, hs_Halves_first⟩ := T.s_Halves_first
  obtain ⟨_, hs_Halves_second⟩ := T.s_Halves_second
  have h_len := T.g_len
  have hC := T.C
  obtain ⟨_, hg_check_gap, G_check_gap⟩ := F_check_gap (P := P) (base := base) T
  obtain ⟨_, _, hp_Steps_rows, G_Steps_rows⟩ := F_Steps_rows (P := P) (base := base) T
  obtain ⟨_, hm_Steps_len, G_Steps_len⟩ := F_Steps_len (P := P) (base := base) T
  obtain ⟨_, hg_are_whole, G_are_whole⟩ := F_are_whole (P := P) (base := base) T
  obtain ⟨_, hg_edited, G_edited⟩ := F_edited (P := P) (base := base) T
  obtain ⟨_, _, hp_Way_words, G_Way_words⟩ := F_Way_words (P := P) (base := base) T
  obtain ⟨ad, fd, hmg, F⟩ := T.f_Halves_shows
  exact ⟨ad, hmg, fn_mk (k := 4) F sc_Halves_shows (F.bindsN fun _ _ _ _ _ _ us hl => match us, hl with | [_, _, _, _], _ => rfl) (fun cdv A outer s H E hr => by
    have sc := sc_Halves_shows
    have hu := hr.units
    have hu1 := hu_of hr
    exact (sss_cons (ss_expr (se_call G_check_gap (hr.mono (by decide)) hg_check_gap tk_def (sa_cons (se_var rfl (i := 1)) (sa_cons (se_var rfl (i := 2)) (sa_cons (se_var rfl (i := 3)) (sa_nil rfl))))))
    (sss_cons (ss_parS (i := 4) (j := 5) (sam_val (se_prop (k := 0) (se_attr (k := 2) (i := 0) (se_var rfl (i := 0)) (hC.sc 2 (by decide)) hs_Halves_first) (hC.sc 0 (by decide)) hp_Steps_rows G_Steps_rows (hr.mono (by decide))) (sam_val (se_prop (k := 0) (se_attr (k := 2) (i := 1) (se_var rfl (i := 0)) (hC.sc 2 (by decide)) hs_Halves_second) (hC.sc 0 (by decide)) hp_Steps_rows G_Steps_rows (hr.mono (by decide))) (sam_nil rfl))) sc.nd)
    (sss_cons (ss_if ((sw_or (st_ne hu ((se_len (sab_cons (sb_var rfl (i := 4)) (sab_nil rfl)) h_len)).sb (sb_var rfl (i := 3))) (sw_or (st_ne hu ((se_add ((se_len (sab_cons (sb_var rfl (i := 4)) (sab_nil rfl)) h_len)).sb ((se_len (sab_cons (sb_var rfl (i := 5)) (sab_nil rfl)) h_len)).sb)).sb ((se_lenO (k := 0) (se_var rfl (i := 2)) h_len (hC.sc 0 (by decide)) hm_Steps_len G_Steps_len (hr.mono (by decide)))).sb) (sw_or (st_not (st_val (se_call G_are_whole (hr.mono (by decide)) hg_are_whole tk_def (sa_cons (se_var rfl (i := 4)) (sa_nil rfl))))) (sw_or1 (st_not (st_val (se_call G_are_whole (hr.mono (by decide)) hg_are_whole tk_def (sa_cons (se_var rfl (i := 5)) (sa_nil rfl)))))))))).st (sss_one (ss_ret (se_bl rfl))) (sss_nil rfl))
    (sss_one (ss_ret (se_eq hu ((se_call G_edited (hr.mono (by decide)) hg_edited tk_def (sa_cons (se_prop (k := 1) (se_var rfl (i := 1)) (hC.sc 1 (by decide)) hp_Way_words G_Way_words (hr.mono (by decide))) (sa_cons (se_var rfl (i := 4)) (sa_cons (se_tup (sa_cons (se_str rfl) (sa_cons (se_var rfl (i := 5)) (sa_nil rfl)))) (sa_nil rfl)))))).sb ((se_tup (sa_cons (se_prop (k := 0) (se_var rfl (i := 2)) (hC.sc 0 (by decide)) hp_Steps_rows G_Steps_rows (hr.mono (by decide))) (sa_cons ((sn_lst (sa_nil rfl))).se (sa_nil rfl))))).sb)))))))⟩
theorem sc_Barred_shows : FnScope ["self", "way", "steps", "gap"] ["self", "way", "steps", "gap"] (defScope (inClass (top 53) 3)) := ⟨rfl, rfl, rfl, by decide +kernel, rfl, by decide +kernel, by decide +kernel⟩
theorem F_Barred_shows (T : Fc c w mg) : ∃ ad, Meth c.K (c.cls 3) "shows" ad ∧ Fn c P w mg base 5 ad 4 m_Barred_shows := by
  obtain ⟨_, hs_Barred_spot⟩ := T.s_Barred_spot
  have hC := T.C
  obtain ⟨_, hg_check_gap, G_check_gap⟩ := F_check_gap (P := P) (base := base) T
  obtain ⟨_, hg_all_spots, G_all_spots⟩ := F_all_spots (P := P) (base := base) T
  obtain ⟨_, _, hp_Steps_rows, G_Steps_rows⟩ := F_Steps_rows (P := P) (base := base) T
  obtain ⟨_, hg_does_bar, G_does_bar⟩ := F_does_bar (P := P) (base := base) T
  obtain ⟨_, _, hp_Way_words, G_Way_words⟩ := F_Way_words (P := P) (base := base) T
  obtain ⟨ad, fd, hmg, F⟩ := T.f_Barred_shows
  exact ⟨ad, hmg, fn_mk (k := 4) F sc_Barred_shows (F.bindsN fun _ _ _ _ _ _ us hl => match us, hl with | [_, _, _, _], _ => rfl) (fun cdv A outer s H E hr => by
    have sc := sc_Barred_shows
    have hu := hr.units
    have hu1 := hu_of hr
    exact (sss_cons (ss_expr (se_call G_check_gap (hr.mono (by decide)) hg_check_gap tk_def (sa_cons (se_var rfl (i := 1)) (sa_cons (se_var rfl (i := 2)) (sa_cons (se_var rfl (i := 3)) (sa_nil rfl))))))
    (sss_one (ss_ret (se_and (se_in hu ((se_attr (k := 3) (i := 0) (se_var rfl (i := 0)) (hC.sc 3 (by decide)) hs_Barred_spot)).sb ((se_call G_all_spots (hr.mono (by decide)) hg_all_spots tk_def (sa_cons (se_prop (k := 0) (se_var rfl (i := 2)) (hC.sc 0 (by decide)) hp_Steps_rows G_Steps_rows (hr.mono (by decide))) (sa_nil rfl)))).sb) (se_and1 (se_call G_does_bar (hr.mono (by decide)) hg_does_bar tk_def (sa_cons (se_prop (k := 1) (se_var rfl (i := 1)) (hC.sc 1 (by decide)) hp_Way_words G_Way_words (hr.mono (by decide))) (sa_cons (se_prop (k := 0) (se_var rfl (i := 2)) (hC.sc 0 (by decide)) hp_Steps_rows G_Steps_rows (hr.mono (by decide))) (sa_cons (se_var rfl (i := 3)) (sa_cons (se_attr (k := 3) (i := 0) (se_var rfl (i := 0)) (hC.sc 3 (by decide)) hs_Barred_spot) (sa_nil rfl))))))))))))⟩
theorem sc__law_does_bar : FnScope ["_law_words_here", "_law_rows_here", "_law_gap", "_law_spot", "_law_kind", "_law_at_here", "_law_meant_here"] ["_law_words_here", "_law_rows_here", "_law_gap", "_law_spot"] (defScope (top 79)) := ⟨rfl, rfl, rfl, by decide +kernel, rfl, by decide +kernel, by decide +kernel⟩
theorem F__law_does_bar (T : Fc c w mg) : ∃ ad, mg "_law_does_bar" = some (.ref ad) ∧ Fn c P w mg base 3 ad 4 m__law_does_bar := by
  have h_len := T.g_len
  have hC := T.C
  obtain ⟨_, hg__law_spots, G__law_spots⟩ := F__law_spots (P := P) (base := base) T
  obtain ⟨_, hg__law_at, G__law_at⟩ := F__law_at (P := P) (base := base) T
  obtain ⟨ad, fd, hmg, F⟩ := T.f__law_does_bar
  exact ⟨ad, hmg, fn_mk (k := 2) F sc__law_does_bar (F.bindsN fun _ _ _ _ _ _ us hl => match us, hl with | [_, _, _, _], _ => rfl) (fun cdv A outer s H E hr => by
    have sc := sc__law_does_bar
    have hu := hr.units
    have hu1 := hu_of hr
    exact (sss_cons (ss_if (st_nin hu (sb_var rfl (i := 3)) ((se_call G__law_spots (hr.mono (by decide)) hg__law_spots tk_def (sa_cons (se_var rfl (i := 1)) (sa_nil rfl)))).sb) (sss_one (ss_ret (se_bl rfl))) (sss_nil rfl))
    (sss_cons (ss_parS (i := 5) (j := 6) (sam_val (se_ix (sb_var rfl (i := 3)) ((se_int rfl)).sb) (sam_val (se_call G__law_at (hr.mono (by decide)) hg__law_at tk_def (sa_cons (se_var rfl (i := 1)) (sa_cons (se_var rfl (i := 3)) (sa_nil rfl)))) (sam_nil rfl))) sc.nd)
    (sss_cons (ss_set (i := 4) (se_ix ((se_ix ((se_ix ((se_ix (sb_var rfl (i := 1)) (sb_var rfl (i := 5)))).sb ((se_int rfl)).sb)).sb ((se_ix (sb_var rfl (i := 3)) ((se_int rfl)).sb)).sb)).sb ((se_int rfl)).sb) sc.nd)
    (sss_cons (ss_if ((sw_or (st_isN (sb_var rfl (i := 6))) (sw_or1 (st_ne hu ((se_lt (sb_var rfl (i := 5)) (sb_var rfl (i := 2)))).sb ((se_lt (sb_var rfl (i := 6)) (sb_var rfl (i := 2)))).sb)))).st (sss_one (ss_ret (se_bl rfl))) (sss_nil rfl))
    (sss_cons (ss_if ((sw_and (st_eq hu (sb_var rfl (i := 4)) ((se_str rfl)).sb) (sw_and (st_eq hu ((se_ix (sb_var rfl (i := 0)) ((se_int rfl)).sb)).sb ((se_str rfl)).sb) (sw_and (st_lt (sb_var rfl (i := 5)) (sb_var rfl (i := 2))) (sw_and1 (st_lt (sb_var rfl (i := 2)) ((se_len (sab_cons (sb_var rfl (i := 1)) (sab_nil rfl)) h_len)).sb)))))).st (sss_one (ss_ret (se_bl rfl))) (sss_nil rfl))
    (sss_one (ss_ret (se_and (se_eq hu (sb_var rfl (i := 4)) ((se_str rfl)).sb) (se_and (se_eq hu ((se_ix (sb_var rfl (i := 0)) ((se_int rfl)).sb)).sb ((se_str rfl)).sb) (se_and (se_ge (sb_var rfl (i := 5)) (sb_var rfl (i := 2))) (se_and1 (se_gt (sb_var rfl (i := 2)) ((se_int rfl)).sb)))))))))))))⟩
theorem sc__law_bent : FnScope ["_law_rows_here", "_law_other", "_law_label", "_law_pointers"] ["_law_rows_here"] (defScope (top 82)) := ⟨rfl, rfl, rfl, by decide +kernel, rfl, by decide +kernel, by decide +kernel⟩
theorem F__law_bent (T : Fc c w mg) : ∃ ad, mg "_law_bent" = some (.ref ad) ∧ Fn c P w mg base 1 ad 1 m__law_bent := by
  have hC := T.C
  obtain ⟨ad, fd, hmg, F⟩ := T.f__law_bent
  exact ⟨ad, hmg, fn_mk (k := 0) F sc__law_bent (F.bindsN fun _ _ _ _ _ _ us hl => match us, hl with | [_], _ => rfl) (fun cdv A outer s H E hr => by
    have sc := sc__law_bent
    have hu := hr.units
    have hu1 := hu_of hr
    exact (sss_cons (ss_asgT (t := (.tup [2, 3])) (se_ix (sb_var rfl (i := 0)) ((se_int rfl)).sb) (sg_tup (sgs_cons (i := 2) (sgs_cons (i := 3) sgs_nil sc.nd) sc.nd)))
    (sss_cons (ss_set (i := 1) (se_tup (sa_cons (se_if (st_eq hu (sb_var rfl (i := 2)) ((se_str rfl)).sb) (se_non rfl) (se_str rfl)) (sa_cons (se_var rfl (i := 3)) (sa_nil rfl)))) sc.nd)
    (sss_one (ss_ret ((sn_lst (sa_cons (se_var rfl (i := 0)) (sa_cons (se_add ((se_tup (sa_cons (se_var rfl (i := 1)) (sa_nil rfl)))).sb ((se_sliceT (sb_var rfl (i := 0)) (so_some ((se_int rfl)).sb) (so_none rfl))).sb) (sa_cons (se_add ((se_tup (sa_cons (se_tup (sa_cons (se_var rfl (i := 2)) (sa_cons (se_sliceT (sb_var rfl (i := 3)) (so_some ((se_int rfl)).sb) (so_none rfl)) (sa_nil rfl)))) (sa_nil rfl)))).sb ((se_sliceT (sb_var rfl (i := 0)) (so_some ((se_int rfl)).sb) (so_none rfl))).sb) (sa_cons (se_sliceT (sb_var rfl (i := 0)) (so_none rfl) (so_some ((se_neg (se_int rfl))).sb)) (sa_cons (se_revT (sb_var rfl (i := 0))) (sa_nil rfl)))))))).se)))))⟩
theorem sc__law_are_halves : FnScope ["_law_words_here", "_law_rows_here", "_law_gap", "_law_one", "_law_other"] ["_law_words_here", "_law_rows_here", "_law_gap", "_law_one", "_law_other"] (defScope (top 78)) := ⟨rfl, rfl, rfl, by decide +kernel, rfl, by decide +kernel, by decide +kernel⟩
theorem F__law_are_halves (T : Fc c w mg) : ∃ ad, mg "_law_are_halves" = some (.ref ad) ∧ Fn c P w mg base 4 ad 5 m__law_are_halves := by
  have h_len := T.g_len
  have hC := T.C
  obtain ⟨_, hg__law_is_whole, G__law_is_whole⟩ := F__law_is_whole (P := P) (base := base) T
  obtain ⟨_, hg__law_edited, G__law_edited⟩ := F__law_edited (P := P) (base := base) T
  obtain ⟨ad, fd, hmg, F⟩ := T.f__law_are_halves
  exact ⟨ad, hmg, fn_mk (k := 3) F sc__law_are_halves (F.bindsN fun _ _ _ _ _ _ us hl => match us, hl with | [_, _, _, _, _], _ => rfl) (fun cdv A outer s H E hr => by
    have sc := sc__law_are_halves
    have hu := hr.units
    have hu1 := hu_of hr
    exact (sss_cons (ss_if ((sw_or (st_ne hu ((se_len (sab_cons (sb_var rfl (i := 3)) (sab_nil rfl)) h_len)).sb (sb_var rfl (i := 2))) (sw_or1 (st_ne hu ((se_add ((se_len (sab_cons (sb_var rfl (i := 3)) (sab_nil rfl)) h_len)).sb ((se_len (sab_cons (sb_var rfl (i := 4)) (sab_nil rfl)) h_len)).sb)).sb ((se_len (sab_cons (sb_var rfl (i := 1)) (sab_nil rfl)) h_len)).sb)))).st (sss_one (ss_ret (se_bl rfl))) (sss_nil rfl))
    (sss_cons (ss_if ((sw_or (st_not (st_val (se_call G__law_is_whole (hr.mono (by decide)) hg__law_is_whole tk_def (sa_cons (se_var rfl (i := 3)) (sa_nil rfl))))) (sw_or1 (st_not (st_val (se_call G__law_is_whole (hr.mono (by decide)) hg__law_is_whole tk_def (sa_cons (se_var rfl (i := 4)) (sa_nil rfl)))))))).st (sss_one (ss_ret (se_bl rfl))) (sss_nil rfl))
    (sss_one (ss_ret (se_eq hu ((se_call G__law_edited (hr.mono (by decide)) hg__law_edited tk_def (sa_cons (se_var rfl (i := 0)) (sa_cons (se_var rfl (i := 3)) (sa_cons (se_tup (sa_cons (se_str rfl) (sa_cons (se_var rfl (i := 4)) (sa_nil rfl)))) (sa_nil rfl)))))).sb ((se_tup (sa_cons (se_var rfl (i := 1)) (sa_cons ((sn_lst (sa_nil rfl))).se (sa_nil rfl))))).sb))))))⟩
theorem sc__law_gap_right : FnScope ["_law_words_here", "_law_way_here", "_law_rows_here", "_law_gap", "_law_answer", "_law_spot", "_law_one", "_law_steps", "_law_both", "_law_other", "_law_due"] ["_law_words_here", "_law_way_here", "_law_rows_here", "_law_gap"] (defScope (top 83)) := ⟨rfl, rfl, rfl, by decide +kernel, rfl, by decide +kernel, by decide +kernel⟩
theorem F__law_gap_right (T : Fc c w mg) : ∃ ad, mg "_law_gap_right" = some (.ref ad) ∧ Fn c P w mg base 9 ad 4 m__law_gap_right := by
  have h_Steps := T.g_Steps
  have h_Halves := T.g_Halves
  have h_isinstance := T.g_isinstance
  have h_Barred := T.g_Barred
  obtain ⟨_, hs_Halves_first⟩ := T.s_Halves_first
  obtain ⟨_, hs_Halves_second⟩ := T.s_Halves_second
  have h_any := T.g_any
  have hC := T.C
  obtain ⟨_, _, mk_Steps, G_Steps_init⟩ := F_Steps_init (P := P) (base := base) T
  obtain ⟨_, hg__law_halves, G__law_halves⟩ := F__law_halves (P := P) (base := base) T
  obtain ⟨_, hg_take_apart, G_take_apart⟩ := F_take_apart (P := P) (base := base) T
  obtain ⟨_, hm_Halves_shows, G_Halves_shows⟩ := F_Halves_shows (P := P) (base := base) T
  obtain ⟨_, hm_Barred_shows, G_Barred_shows⟩ := F_Barred_shows (P := P) (base := base) T
  obtain ⟨_, hg__law_spots, G__law_spots⟩ := F__law_spots (P := P) (base := base) T
  obtain ⟨_, _, mk_Barred, G_Barred_init⟩ := F_Barred_init (P := P) (base := base) T
  obtain ⟨_, hg__law_does_bar, G__law_does_bar⟩ := F__law_does_bar (P := P) (base := base) T
  obtain ⟨_, _, mk_Halves, G_Halves_init⟩ := F_Halves_init (P := P) (base := base) T
  obtain ⟨_, _, hp_Steps_rows, G_Steps_rows⟩ := F_Steps_rows (P := P) (base := base) T
  obtain ⟨_, hg__law_bent, G__law_bent⟩ := F__law_bent (P := P) (base := base) T
  obtain ⟨_, hg__law_are_halves, G__law_are_halves⟩ := F__law_are_halves (P := P) (base := base) T
  obtain ⟨ad, fd, hmg, F⟩ := T.f__law_gap_right
  exact ⟨ad, hmg, fn_mk (k := 8) F sc__law_gap_right (F.bindsN fun _ _ _ _ _ _ us hl => match us, hl with | [_, _, _, _], _ => rfl) (fun cdv A outer s H E hr => by
    have sc := sc__law_gap_right
    have hu := hr.units
    have hu1 := hu_of hr
    exact (sss_cons (ss_parS (i := 7) (j := 8) (sam_val (se_make (kc := 0) (ad := 0) mk_Steps G_Steps_init.1 G_Steps_init.2 (hr.mono (by decide)) h_Steps tk_def (sa_cons (se_var rfl (i := 2)) (sa_nil rfl))) (sam_val (se_call G__law_halves (hr.mono (by decide)) hg__law_halves tk_def (sa_cons (se_var rfl (i := 0)) (sa_cons (se_var rfl (i := 2)) (sa_cons (se_var rfl (i := 3)) (sa_nil rfl))))) (sam_nil rfl))) sc.nd)
    (sss_cons (ss_set (i := 4) (se_call G_take_apart (hr.mono (by decide)) hg_take_apart tk_def (sa_cons (se_var rfl (i := 1)) (sa_cons (se_var rfl (i := 7)) (sa_cons (se_var rfl (i := 3)) (sa_nil rfl))))) sc.nd)
    (sss_cons (ss_if ((sw_or (st_ne hu ((se_iso hC (sab_cons (sb_var rfl (i := 4)) (sab_cons ((se_glob (v := .ref (c.cls 2)) rfl (by rfl) h_Halves rfl (fun _ => .cls _))).sb (sab_nil rfl))) h_isinstance)).sb ((se_notN (sb_var rfl (i := 8)))).sb) (sw_or1 (st_notB ((se_byv (isK 2) (A := fun ρ => (fun d => bd (insM 2 d) fun d => bd (consM (vl ρ 1) (consM (vl ρ 7) (consM (vl ρ 3) (rt [])))) fun ds => callM 4 m_Halves_shows (d :: ds))) (B := fun ρ => (fun d => bd (insM 3 d) fun d => bd (consM (vl ρ 1) (consM (vl ρ 7) (consM (vl ρ 3) (rt [])))) fun ds => callM 4 m_Barred_shows (d :: ds))) (se_meth (k := 2) (se_var rfl (i := 4)) (sa_cons (se_var rfl (i := 1)) (sa_cons (se_var rfl (i := 7)) (sa_cons (se_var rfl (i := 3)) (sa_nil rfl)))) (hC.sc 2 (by decide)) hm_Halves_shows G_Halves_shows (hr.mono (by decide)) tk_def) (se_meth (k := 3) (se_var rfl (i := 4)) (sa_cons (se_var rfl (i := 1)) (sa_cons (se_var rfl (i := 7)) (sa_cons (se_var rfl (i := 3)) (sa_nil rfl)))) (hC.sc 3 (by decide)) hm_Barred_shows G_Barred_shows (hr.mono (by decide)) tk_def))).sb ((se_bl rfl)).sb)))).st (sss_one (ss_ret (se_bl rfl))) (sss_nil rfl))
    (sss_cons (ss_for (t := (.one 5)) (si_seq ((sn_add ((se_call G__law_spots (hr.mono (by decide)) hg__law_spots tk_def (sa_cons (se_var rfl (i := 2)) (sa_nil rfl)))).sb (((sn_lst (sa_cons (se_tup (sa_cons (se_int rfl) (sa_cons (se_int rfl) (sa_nil rfl)))) (sa_cons (se_tup (sa_cons (se_int rfl) (sa_cons (se_int rfl) (sa_nil rfl)))) (sa_cons (se_tup (sa_cons (se_int rfl) (sa_cons (se_int rfl) (sa_nil rfl)))) (sa_nil rfl)))))).se).sb)).se) (sg_one (i := 5) sc.nd) (sss_one (ss_if (st_ne hu ((se_meth (k := 3) (se_make (kc := 3) (ad := 0) mk_Barred G_Barred_init.1 G_Barred_init.2 (hr.mono (by decide)) h_Barred tk_def (sa_cons (se_var rfl (i := 5)) (sa_nil rfl))) (sa_cons (se_var rfl (i := 1)) (sa_cons (se_var rfl (i := 7)) (sa_cons (se_var rfl (i := 3)) (sa_nil rfl)))) (hC.sc 3 (by decide)) hm_Barred_shows G_Barred_shows (hr.mono (by decide)) tk_def)).sb ((se_call G__law_does_bar (hr.mono (by decide)) hg__law_does_bar tk_def (sa_cons (se_var rfl (i := 0)) (sa_cons (se_var rfl (i := 2)) (sa_cons (se_var rfl (i := 3)) (sa_cons (se_var rfl (i := 5)) (sa_nil rfl))))))).sb) (sss_one (ss_ret (se_bl rfl))) (sss_nil rfl))) pa_def)
    (sss_cons (ss_if (st_isN (sb_var rfl (i := 8))) (sss_one (ss_ret (se_not (se_meth (k := 2) (se_make (kc := 2) (ad := 0) mk_Halves G_Halves_init.1 G_Halves_init.2 (hr.mono (by decide)) h_Halves tk_def (sa_cons (se_make (kc := 0) (ad := 0) mk_Steps G_Steps_init.1 G_Steps_init.2 (hr.mono (by decide)) h_Steps tk_def (sa_cons (se_sliceT (sb_var rfl (i := 2)) (so_none rfl) (so_some (sb_var rfl (i := 3)))) (sa_nil rfl))) (sa_cons (se_make (kc := 0) (ad := 0) mk_Steps G_Steps_init.1 G_Steps_init.2 (hr.mono (by decide)) h_Steps tk_def (sa_cons (se_sliceT (sb_var rfl (i := 2)) (so_some (sb_var rfl (i := 3))) (so_none rfl)) (sa_nil rfl))) (sa_nil rfl)))) (sa_cons (se_var rfl (i := 1)) (sa_cons (se_var rfl (i := 7)) (sa_cons (se_var rfl (i := 3)) (sa_nil rfl)))) (hC.sc 2 (by decide)) hm_Halves_shows G_Halves_shows (hr.mono (by decide)) tk_def)))) (sss_nil rfl))
    (sss_cons (ss_if ((sw_or (st_ne hu ((se_prop (k := 0) (se_attr (k := 2) (i := 0) (se_var rfl (i := 4)) (hC.sc 2 (by decide)) hs_Halves_first) (hC.sc 0 (by decide)) hp_Steps_rows G_Steps_rows (hr.mono (by decide)))).sb ((se_ix (sb_var rfl (i := 8)) ((se_int rfl)).sb)).sb) (sw_or1 (st_ne hu ((se_prop (k := 0) (se_attr (k := 2) (i := 1) (se_var rfl (i := 4)) (hC.sc 2 (by decide)) hs_Halves_second) (hC.sc 0 (by decide)) hp_Steps_rows G_Steps_rows (hr.mono (by decide)))).sb ((se_ix (sb_var rfl (i := 8)) ((se_int rfl)).sb)).sb)))).st (sss_one (ss_ret (se_bl rfl))) (sss_nil rfl))
    (sss_cons (ss_for (t := (.one 6)) (si_seq (se_if (st_ne hu ((se_ix (sb_var rfl (i := 8)) ((se_int rfl)).sb)).sb ((se_tup (sa_nil rfl))).sb) (se_call G__law_bent (hr.mono (by decide)) hg__law_bent tk_def (sa_cons (se_ix (sb_var rfl (i := 8)) ((se_int rfl)).sb) (sa_nil rfl))) ((sn_lst (sa_cons (se_tup (sa_nil rfl)) (sa_nil rfl)))).se)) (sg_one (i := 6) sc.nd) (sss_one (ss_for (t := (.one 9)) (si_seq (se_if (st_ne hu ((se_ix (sb_var rfl (i := 8)) ((se_int rfl)).sb)).sb ((se_tup (sa_nil rfl))).sb) (se_call G__law_bent (hr.mono (by decide)) hg__law_bent tk_def (sa_cons (se_ix (sb_var rfl (i := 8)) ((se_int rfl)).sb) (sa_nil rfl))) ((sn_lst (sa_cons (se_tup (sa_nil rfl)) (sa_nil rfl)))).se)) (sg_one (i := 9) sc.nd) (sss_cons (ss_set (i := 10) (se_call G__law_are_halves (hr.mono (by decide)) hg__law_are_halves tk_def (sa_cons (se_var rfl (i := 0)) (sa_cons (se_var rfl (i := 2)) (sa_cons (se_var rfl (i := 3)) (sa_cons (se_var rfl (i := 6)) (sa_cons (se_var rfl (i := 9)) (sa_nil rfl))))))) sc.nd)
    (sss_one (ss_if (st_ne hu ((se_meth (k := 2) (se_make (kc := 2) (ad := 0) mk_Halves G_Halves_init.1 G_Halves_init.2 (hr.mono (by decide)) h_Halves tk_def (sa_cons (se_make (kc := 0) (ad := 0) mk_Steps G_Steps_init.1 G_Steps_init.2 (hr.mono (by decide)) h_Steps tk_def (sa_cons (se_var rfl (i := 6)) (sa_nil rfl))) (sa_cons (se_make (kc := 0) (ad := 0) mk_Steps G_Steps_init.1 G_Steps_init.2 (hr.mono (by decide)) h_Steps tk_def (sa_cons (se_var rfl (i := 9)) (sa_nil rfl))) (sa_nil rfl)))) (sa_cons (se_var rfl (i := 1)) (sa_cons (se_var rfl (i := 7)) (sa_cons (se_var rfl (i := 3)) (sa_nil rfl)))) (hC.sc 2 (by decide)) hm_Halves_shows G_Halves_shows (hr.mono (by decide)) tk_def)).sb (sb_var rfl (i := 10))) (sss_one (ss_ret (se_bl rfl))) (sss_nil rfl)))) pa_def)) pa_def)
    (sss_one (ss_ret (se_not (se_any (sab_cons (((sn_lc (own := [("_law_spot", 5)]) (t := (.one 5)) ((si_seq (se_call G__law_spots (hr.mono (by decide)) hg__law_spots tk_def (sa_cons (se_var rfl (i := 2)) (sa_nil rfl))))).sic sc.nd (blkOk_by (by kernel_rfl)) (by decide) (fun s H C cl fp => (sg_one (i := 5) sc.nd)) (fun s H C cl fp => sts_nil) (fun s H C cl fp => (se_call G__law_does_bar (hr.mono (by decide)) hg__law_does_bar tk_in (sa_cons (se_var rfl (i := 0)) (sa_cons (se_var rfl (i := 2)) (sa_cons (se_var rfl (i := 3)) (sa_cons (se_var rfl (i := 5)) (sa_nil rfl))))))))).se).sb (sab_nil rfl)) h_any))))))))))))⟩
theorem sc_law : FnScope ["_law_script", "_law_draw_here", "_law_again", "_law_odd", "_law_due", "_law_words_here", "_law_gap", "_law_rows_here", "_law_way_here", "_law_block"] ["_law_script"] (defScope (top 84)) := ⟨rfl, rfl, rfl, by decide +kernel, rfl, by decide +kernel, by decide +kernel⟩
theorem F_law (T : Fc c w mg) : ∃ ad fd, mg "law" = some (.ref ad) ∧ (∀ (s : Shared) (v : Value), BindsTo s fd ⟨[v], []⟩ [("_law_script", v)]) ∧ ∀ base : Heap, FnOk P w c.K mg base (L2.CX P w) 18 ad fd ["_law_script"] (PromF c 1 m_law) := by
  obtain ⟨ad, fd, hmg, F⟩ := T.f_law
  have hb := FunD.bindsA (ps := ["_law_script"]) F fun _ _ _ _ _ _ us hl => match us, hl with | [_], _ => rfl
  refine ⟨ad, fd, hmg, fun s v => hb s [v] rfl, fun base => ?_⟩
  have h_range := T.g_range
  have h_len := T.g_len
  have h_Steps := T.g_Steps
  have hC := T.C
  obtain ⟨_, hg__law_words, G__law_words⟩ := F__law_words (P := P) (base := base) T
  obtain ⟨_, hg__law_list, G__law_list⟩ := F__law_list (P := P) (base := base) T
  obtain ⟨_, hg__law_way, G__law_way⟩ := F__law_way (P := P) (base := base) T
  obtain ⟨_, hg__law_halves, G__law_halves⟩ := F__law_halves (P := P) (base := base) T
  obtain ⟨_, hg_seams, G_seams⟩ := F_seams (P := P) (base := base) T
  obtain ⟨_, _, mk_Steps, G_Steps_init⟩ := F_Steps_init (P := P) (base := base) T
  obtain ⟨_, hg_blocks, G_blocks⟩ := F_blocks (P := P) (base := base) T
  obtain ⟨_, _, hp_Steps_rows, G_Steps_rows⟩ := F_Steps_rows (P := P) (base := base) T
  obtain ⟨_, hg__law_blocks, G__law_blocks⟩ := F__law_blocks (P := P) (base := base) T
  obtain ⟨_, hg__law_gap_right, G__law_gap_right⟩ := F__law_gap_right (P := P) (base := base) T
  obtain ⟨_, hg__law_rows, G__law_rows⟩ := F__law_rows (P := P) (base := base) T
  exact fnOk_mk (k := 17) F sc_law (fun cdv A outer s H E hr => by
    have sc := sc_law
    have hu := hr.units
    have hu1 := hu_of hr
    exact (sss_cons (ss_setS (i := 1) (sn_lst (sa_cons ((sn_slice (sb_var rfl (i := 0)) (so_none rfl) (so_some ((se_int rfl)).sb))).se (sa_cons (se_int rfl) (sa_cons (se_int rfl) (sa_nil rfl))))) sc.nd)
    (sss_cons (ss_for (t := (.one 2)) (si_range1 (sa_cons (se_int rfl) (sa_nil rfl)) h_range) (sg_one (i := 2) sc.nd) (sss_cons (ss_set (i := 5) (se_call G__law_words (hr.mono (by decide)) hg__law_words tk_def (sa_cons (se_var rfl (i := 1)) (sa_nil rfl))) sc.nd)
    (sss_cons (ss_asgT (t := (.tup [7, 8])) (se_tup (sa_cons (se_call G__law_list (hr.mono (by decide)) hg__law_list tk_def (sa_cons (se_var rfl (i := 1)) (sa_cons (se_var rfl (i := 5)) (sa_nil rfl)))) (sa_cons (se_call G__law_way (hr.mono (by decide)) hg__law_way tk_def (sa_cons (se_var rfl (i := 5)) (sa_nil rfl))) (sa_nil rfl)))) (sg_tup (sgs_cons (i := 7) (sgs_cons (i := 8) sgs_nil sc.nd) sc.nd)))
    (sss_cons (ss_setLc (i := 4) (own := [("_law_gap", 6)]) (t := (.one 6)) ((si_range1 (sa_cons (se_add ((se_len (sab_cons (sb_var rfl (i := 7)) (sab_nil rfl)) h_len)).sb ((se_int rfl)).sb) (sa_nil rfl)) h_range)).sic sc.nd (blkOk_by (by kernel_rfl)) (by decide) (fun s H C cl fp => (sg_one (i := 6) sc.nd)) (fun s H C cl fp => (sts_one (st_notN ((se_call G__law_halves (hr.mono (by decide)) hg__law_halves tk_in (sa_cons (se_var rfl (i := 5)) (sa_cons (se_var rfl (i := 7)) (sa_cons (se_var rfl (i := 6)) (sa_nil rfl)))))).sb))) (fun s H C cl fp => (se_var rfl (i := 6))))
    (sss_cons (ss_if (st_ne hu ((se_call G_seams (hr.mono (by decide)) hg_seams tk_def (sa_cons (se_var rfl (i := 8)) (sa_cons (se_make (kc := 0) (ad := 0) mk_Steps G_Steps_init.1 G_Steps_init.2 (hr.mono (by decide)) h_Steps tk_def (sa_cons (se_var rfl (i := 7)) (sa_nil rfl))) (sa_nil rfl))))).sb (sb_var rfl (i := 4))) (sss_one (ss_ret (se_bl rfl))) (sss_nil rfl))
    (sss_cons (ss_if (st_ne hu (((sn_lc (own := [("_law_block", 9)]) (t := (.one 9)) ((si_seq (se_call G_blocks (hr.mono (by decide)) hg_blocks tk_def (sa_cons (se_var rfl (i := 8)) (sa_cons (se_make (kc := 0) (ad := 0) mk_Steps G_Steps_init.1 G_Steps_init.2 (hr.mono (by decide)) h_Steps tk_def (sa_cons (se_var rfl (i := 7)) (sa_nil rfl))) (sa_nil rfl)))))).sic sc.nd (blkOk_by (by kernel_rfl)) (by decide) (fun s H C cl fp => (sg_one (i := 9) sc.nd)) (fun s H C cl fp => sts_nil) (fun s H C cl fp => (se_prop (k := 0) (se_var rfl (i := 9)) (hC.sc 0 (by decide)) hp_Steps_rows G_Steps_rows (hr.mono (by decide)))))).se).sb ((se_call G__law_blocks (hr.mono (by decide)) hg__law_blocks tk_def (sa_cons (se_var rfl (i := 5)) (sa_cons (se_var rfl (i := 7)) (sa_nil rfl))))).sb) (sss_one (ss_ret (se_bl rfl))) (sss_nil rfl))
    (sss_one (ss_for (t := (.one 6)) (si_range1 (sa_cons (se_add ((se_len (sab_cons (sb_var rfl (i := 7)) (sab_nil rfl)) h_len)).sb ((se_int rfl)).sb) (sa_nil rfl)) h_range) (sg_one (i := 6) sc.nd) (sss_one (ss_if (st_not (st_val (se_call G__law_gap_right (hr.mono (by decide)) hg__law_gap_right tk_def (sa_cons (se_var rfl (i := 5)) (sa_cons (se_var rfl (i := 8)) (sa_cons (se_var rfl (i := 7)) (sa_cons (se_var rfl (i := 6)) (sa_nil rfl)))))))) (sss_one (ss_ret (se_bl rfl))) (sss_nil rfl))) pa_def))))))) pa_def)
    (sss_cons (ss_set (i := 3) (se_call G__law_rows (hr.mono (by decide)) hg__law_rows tk_def (sa_cons (se_var rfl (i := 1)) (sa_cons (se_int rfl) (sa_nil rfl)))) sc.nd)
    (sss_cons (ss_setLc (i := 4) (own := [("_law_gap", 6)]) (t := (.one 6)) ((si_range1 (sa_cons (se_add ((se_len (sab_cons (sb_var rfl (i := 3)) (sab_nil rfl)) h_len)).sb ((se_int rfl)).sb) (sa_nil rfl)) h_range)).sic sc.nd (blkOk_by (by kernel_rfl)) (by decide) (fun s H C cl fp => (sg_one (i := 6) sc.nd)) (fun s H C cl fp => (sts_one (st_notN ((se_call G__law_halves (hr.mono (by decide)) hg__law_halves tk_in (sa_cons (se_var rfl (i := 5)) (sa_cons (se_var rfl (i := 3)) (sa_cons (se_var rfl (i := 6)) (sa_nil rfl)))))).sb))) (fun s H C cl fp => (se_var rfl (i := 6))))
    (sss_one (ss_ret (se_and (se_eq hu ((se_call G_seams (hr.mono (by decide)) hg_seams tk_def (sa_cons (se_var rfl (i := 8)) (sa_cons (se_make (kc := 0) (ad := 0) mk_Steps G_Steps_init.1 G_Steps_init.2 (hr.mono (by decide)) h_Steps tk_def (sa_cons (se_var rfl (i := 3)) (sa_nil rfl))) (sa_nil rfl))))).sb (sb_var rfl (i := 4))) (se_and (se_eq hu ((se_call G_seams (hr.mono (by decide)) hg_seams tk_def (sa_cons (se_var rfl (i := 8)) (sa_cons (se_make (kc := 0) (ad := 0) mk_Steps G_Steps_init.1 G_Steps_init.2 (hr.mono (by decide)) h_Steps tk_def (sa_cons (se_tup (sa_nil rfl)) (sa_nil rfl))) (sa_nil rfl))))).sb (((sn_lst (sa_cons (se_int rfl) (sa_nil rfl)))).se).sb) (se_and1 (se_eq hu ((se_call G_blocks (hr.mono (by decide)) hg_blocks tk_def (sa_cons (se_var rfl (i := 8)) (sa_cons (se_make (kc := 0) (ad := 0) mk_Steps G_Steps_init.1 G_Steps_init.2 (hr.mono (by decide)) h_Steps tk_def (sa_cons (se_tup (sa_nil rfl)) (sa_nil rfl))) (sa_nil rfl))))).sb (((sn_lst (sa_nil rfl))).se).sb)))))))))))
end
end Wk

/-! text: Q1 -/
set_option Elab.async false
set_option linter.all false
set_option maxRecDepth 100000
set_option maxHeartbeats 1000000
/-! P1 -/
namespace Sm
open PySem PySem.Spec L2
/-! ### how the mirrors are worked out -/
@[simp] theorem e_bd {α β : Type} (m : M α) (f : α → M β) (S : Sto) : bd m f S = match m S with
  | .ok a S' => f a S'
  | .err k fs S' => .err k fs S'
  | .stuck => .stuck := rfl
@[simp] theorem e_rt {α : Type} (a : α) (S : Sto) : rt a S = .ok a S := rfl
@[simp] theorem e_stk {α : Type} (S : Sto) : (stk : M α) S = .stuck := rfl
theorem e_callM {n : Nat} {m : List D → M D} {ds : List D} (h : ds.length = n) (S : Sto) : callM n m ds S = m ds S := by
  unfold callM
  split
  · rfl
  · rename_i h2 _; exact absurd h h2
@[simp] theorem e_call0 (m : List D → M D) (S : Sto) : callM 0 m [] S = m [] S := e_callM (ds := []) rfl S
@[simp] theorem e_call1 (m : List D → M D) (a : D) (S : Sto) : callM 1 m [a] S = m [a] S := e_callM (ds := [a]) rfl S
@[simp] theorem e_call2 (m : List D → M D) (a b : D) (S : Sto) : callM 2 m [a, b] S = m [a, b] S := e_callM (ds := [a, b]) rfl S
@[simp] theorem e_call3 (m : List D → M D) (a b c : D) (S : Sto) : callM 3 m [a, b, c] S = m [a, b, c] S := e_callM (ds := [a, b, c]) rfl S
@[simp] theorem e_call4 (m : List D → M D) (a b c d : D) (S : Sto) : callM 4 m [a, b, c, d] S = m [a, b, c, d] S := e_callM (ds := [a, b, c, d]) rfl S
@[simp] theorem e_call5 (m : List D → M D) (a b c d e : D) (S : Sto) : callM 5 m [a, b, c, d, e] S = m [a, b, c, d, e] S := e_callM (ds := [a, b, c, d, e]) rfl S
@[simp] theorem e_call6 (m : List D → M D) (a b c d e f : D) (S : Sto) : callM 6 m [a, b, c, d, e, f] S = m [a, b, c, d, e, f] S := e_callM (ds := [a, b, c, d, e, f]) rfl S
@[simp] theorem e_seqS (a b : Env → M Out) (ρ : Env) (S : Sto) : seqS a b ρ S = match a ρ S with
  | .ok (.nx ρ') S' => b ρ' S'
  | .ok o S' => .ok o S'
  | .err k fs S' => .err k fs S'
  | .stuck => .stuck := by
  show bd (a ρ) _ S = _
  rw [e_bd]
  cases a ρ S with
  | ok o S' => cases o <;> rfl
  | err k fs S' => rfl
  | stuck => rfl
@[simp] theorem e_nextS (ρ : Env) (S : Sto) : nextS ρ S = .ok (.nx ρ) S := rfl
@[simp] theorem e_boolT (m : M D) (S : Sto) : boolT m S = match m S with
  | .ok a S' => asB a S'
  | .err k fs S' => .err k fs S'
  | .stuck => .stuck := by
  show bd m asB S = _
  rw [e_bd]
  cases m S <;> rfl
@[simp] theorem e_asB (b : Bool) (S : Sto) : asB (.bl b) S = .ok b S := rfl
@[simp] theorem e_asI (i : Int) (S : Sto) : asI (.int i) S = .ok (some i) S := rfl
@[simp] theorem e_o2 (f : D → D → Sto → Option D) (a b : M D) (S : Sto) : o2 f a b S = match a S with
  | .ok x S1 => (match b S1 with
    | .ok y S2 => op2 f x y S2
    | .err k fs S' => .err k fs S'
    | .stuck => .stuck)
  | .err k fs S' => .err k fs S'
  | .stuck => .stuck := by
  show bd a (fun x => bd b fun y => op2 f x y) S = _
  rw [e_bd]
  cases a S with
  | ok x S1 =>
    show bd b (fun y => op2 f x y) S1 = (match b S1 with
      | .ok y S2 => op2 f x y S2
      | .err k fs S' => .err k fs S'
      | .stuck => .stuck)
    rw [e_bd]
    cases b S1 <;> rfl
  | err k fs S' => rfl
  | stuck => rfl
@[simp] theorem e_op2 (f : D → D → Sto → Option D) (x y : D) (S : Sto) : op2 f x y S = match f x y S with
  | some d => .ok d S
  | none => .stuck := rfl
@[simp] theorem e_iteM {α : Type} (b : Bool) (x y : M α) (S : Sto) : iteM b x y S = if b = true then x S else y S := by cases b <;> rfl
@[simp] theorem e_vl (ρ : Env) (i : Nat) (S : Sto) : vl ρ i S = match ρ[i]? with
  | some (.val d) => .ok d S
  | _ => .stuck := rfl
@[simp] theorem e_vb (ρ : Env) (i : Nat) (S : Sto) : vb ρ i S = match ρ[i]? with
  | some (.val d) => .ok d S
  | some (.own ds) => .ok (.lst ds) S
  | _ => .stuck := rfl
@[simp] theorem e_consM {α : Type} (m : M α) (ms : M (List α)) (S : Sto) : consM m ms S = match m S with
  | .ok x S1 => (match ms S1 with
    | .ok xs S2 => .ok (x :: xs) S2
    | .err k fs S' => .err k fs S'
    | .stuck => .stuck)
  | .err k fs S' => .err k fs S'
  | .stuck => .stuck := by
  show bd m (fun x => bd ms fun xs => rt (x :: xs)) S = _
  rw [e_bd]
  cases m S with
  | ok x S1 =>
    show bd ms (fun xs => rt (x :: xs)) S1 = (match ms S1 with
      | .ok xs S2 => .ok (x :: xs) S2
      | .err k fs S' => .err k fs S'
      | .stuck => .stuck)
    rw [e_bd]
    cases ms S1 <;> rfl
  | err k fs S' => rfl
  | stuck => rfl
@[simp] theorem e_c1 (f : List D → Sto → Option D) (m : M (List D)) (S : Sto) : c1 f m S = match m S with
  | .ok ds S1 => (match f ds S1 with
    | some d => .ok d S1
    | none => .stuck)
  | .err k fs S' => .err k fs S'
  | .stuck => .stuck := by
  unfold c1 bd
  cases m S with
  | ok ds S1 =>
    show opC f ds S1 = (match f ds S1 with
      | some d => .ok d S1
      | none => .stuck)
    unfold opC
    cases f ds S1 <;> rfl
  | err k fs S' => rfl
  | stuck => rfl
@[simp] theorem e_setV (i : Nat) (m : Env → M D) (ρ : Env) (S : Sto) : setV i m ρ S = match m ρ S with
  | .ok d S' => .ok (.nx (ρ.set i (.val d))) S'
  | .err k fs S' => .err k fs S'
  | .stuck => .stuck := by
  unfold setV bd
  cases m ρ S <;> rfl
@[simp] theorem e_setN (i : Nat) (m : Env → M (List D)) (ρ : Env) (S : Sto) : setN i m ρ S = match m ρ S with
  | .ok d S' => .ok (.nx (ρ.set i (.own d))) S'
  | .err k fs S' => .err k fs S'
  | .stuck => .stuck := by
  unfold setN bd
  cases m ρ S <;> rfl
@[simp] theorem e_fnM (n : Nat) (mb : Env → M Out) (ds : List D) (S : Sto) : fnM n mb ds S = match mb (ds.map Slot.val ++ List.replicate (n - ds.length) .no) S with
  | .ok (.nx _) S' => .ok .non S'
  | .ok (.ret d) S' => .ok d S'
  | .ok _ _ => .stuck
  | .err k fs S' => .err k fs S'
  | .stuck => .stuck := by
  show bd (mb _) outM S = _
  rw [e_bd]
  cases mb (ds.map Slot.val ++ List.replicate (n - ds.length) .no) S with
  | ok o S' => cases o <;> rfl
  | err k fs S' => rfl
  | stuck => rfl
theorem e_range1 {m : M (List D)} {S S' : Sto} {n : Nat} (h : m S = .ok [.int n] S') (hn : n ≤ 90000) : range1M m S = .ok (rng 0 n) S' := by
  unfold range1M bd
  rw [h]
  have e : inI (n : Int) = true := by
    unfold inI
    rw [decide_eq_true (by omega), decide_eq_true (by omega)]; rfl
  show (if inI (n : Int) = true then _ else _) = _
  rw [if_pos e]
  simp
/-! ints -/
@[simp] theorem e_lt (i j : Int) (S : Sto) : ltI (.int i) (.int j) S = some (.bl (decide (i < j))) := rfl
@[simp] theorem e_le (i j : Int) (S : Sto) : leI (.int i) (.int j) S = some (.bl (decide (i ≤ j))) := rfl
@[simp] theorem e_gt (i j : Int) (S : Sto) : gtI (.int i) (.int j) S = some (.bl (decide (j < i))) := rfl
@[simp] theorem e_ge (i j : Int) (S : Sto) : geI (.int i) (.int j) S = some (.bl (decide (j ≤ i))) := rfl
@[simp] theorem e_add (i j : Int) (S : Sto) : addA (.int i) (.int j) S = some (.int (i + j)) := rfl
@[simp] theorem e_sub (i j : Int) (S : Sto) : subI (.int i) (.int j) S = some (.int (i - j)) := rfl
theorem e_mul {i j : Int} (h : (-2 ^ 64 < i ∧ i < 2 ^ 64) ∨ (-2 ^ 64 < j ∧ j < 2 ^ 64)) (S : Sto) : mulA (.int i) (.int j) S = some (.int (i * j)) := by
  have e : mulI (.int i) (.int j) S = some (.int (i * j)) := by
    show (if _ = true then _ else _) = _
    rw [if_pos]
    simp only [smallI, Bool.or_eq_true, Bool.and_eq_true, decide_eq_true_eq]
    exact h
  unfold mulA orD
  rw [e]
theorem e_div {i j : Int} (h : 0 < j) (h2 : j < 2 ^ 1000) (S : Sto) : divI (.int i) (.int j) S = some (.int (i / j)) := by
  show (if _ = true then _ else _) = _
  rw [if_pos]
  simp only [Bool.and_eq_true, decide_eq_true_eq]
  exact ⟨h, h2⟩
theorem e_mod {i j : Int} (h : 0 < j) (S : Sto) : modI (.int i) (.int j) S = some (.int (i % j)) := by
  show (if decide (0 < j) = true then some (D.int (i % j)) else none) = _
  rw [if_pos (decide_eq_true h)]
@[simp] theorem e_ixT (ds : List D) (i : Int) (S : Sto) : ixD (.tup ds) (.int i) S = L2.atI ds i := rfl
@[simp] theorem e_ixL (ds : List D) (i : Int) (S : Sto) : ixD (.lst ds) (.int i) S = L2.atI ds i := rfl
theorem e_ixR {n : Nat} {ds : List D} {S : Sto} (h : S[n]? = some (.lst ds)) (i : Int) : ixD (.ref n) (.int i) S = L2.atI ds i := by
  show (match S[n]? with | some (.lst ds) => L2.atI ds i | _ => none) = _
  rw [h]
@[simp] theorem e_at0 {α : Type} (a : α) (r : List α) : L2.atI (a :: r) 0 = some a := by
  have := L2.atI_nat (xs := a :: r) (j := 0) (v := a) rfl
  simpa using this
@[simp] theorem e_at1 {α : Type} (a b : α) (r : List α) : L2.atI (a :: b :: r) 1 = some b := by
  have := L2.atI_nat (xs := a :: b :: r) (j := 1) (v := b) rfl
  simpa using this
@[simp] theorem e_at2 {α : Type} (a b c : α) (r : List α) : L2.atI (a :: b :: c :: r) 2 = some c := by
  have := L2.atI_nat (xs := a :: b :: c :: r) (j := 2) (v := c) rfl
  simpa using this
@[simp] theorem e_lenL (ds : List D) (S : Sto) : lenD [.lst ds] S = some (.int ds.length) := rfl
@[simp] theorem e_lenT (ds : List D) (S : Sto) : lenD [.tup ds] S = some (.int ds.length) := rfl
@[simp] theorem e_int (i : Int) (S : Sto) : intD [.int i] S = some (.int i) := rfl
@[simp] theorem e_tupM (m : M (List D)) (S : Sto) : tupM m S = match m S with
  | .ok ds S' => if ds.length ≤ 100000 then .ok (.tup ds) S' else .stuck
  | .err k fs S' => .err k fs S'
  | .stuck => .stuck := by
  unfold tupM bd
  cases m S <;> rfl
@[simp] theorem e_lstM (m : M (List D)) (S : Sto) : lstM m S = match m S with
  | .ok ds S' => if ds.length ≤ 100000 then .ok ds S' else .stuck
  | .err k fs S' => .err k fs S'
  | .stuck => .stuck := by
  unfold lstM bd
  cases m S <;> rfl
theorem e_tup {m : M (List D)} {S S' : Sto} {ds : List D} (h : m S = .ok ds S') (hl : ds.length ≤ 100000) : tupM m S = .ok (.tup ds) S' := by
  unfold tupM bd
  rw [h]
  exact if_pos hl
end Sm
/-! P4 -/
namespace Sm
open PySem PySem.Spec L2
theorem beqS (a b : Str) : (a == b) = decide (a = b) := by
  by_cases h : a = b
  · subst h; rw [decide_eq_true rfl]; exact beq_self_eq_true a
  · rw [decide_eq_false h]; exact beq_eq_false_iff_ne.mpr h
theorem beqI (a b : Int) : (a == b) = decide (a = b) := by
  by_cases h : a = b
  · subst h; rw [decide_eq_true rfl]; exact beq_self_eq_true a
  · rw [decide_eq_false h]; exact beq_eq_false_iff_ne.mpr h
@[simp] theorem e_eqSS (a b : Str) (S : Sto) : eqD (.str a) (.str b) S = some (.bl (decide (a = b))) := by
  unfold eqD
  simp [D.py, PyData.eqv, PyData.depth, beqS, beqI]
@[simp] theorem e_neSS (a b : Str) (S : Sto) : neD (.str a) (.str b) S = some (.bl (!decide (a = b))) := by
  unfold neD
  simp [D.py, PyData.eqv, PyData.depth, beqS, beqI]
@[simp] theorem e_eqII (a b : Int) (S : Sto) : eqD (.int a) (.int b) S = some (.bl (decide (a = b))) := by
  unfold eqD
  simp [D.py, PyData.eqv, PyData.depth, beqS, beqI]
@[simp] theorem e_neII (a b : Int) (S : Sto) : neD (.int a) (.int b) S = some (.bl (!decide (a = b))) := by
  unfold neD
  simp [D.py, PyData.eqv, PyData.depth, beqS, beqI]
@[simp] theorem e_inS2 (x a b : Str) (S : Sto) : inD false (.str x) (.tup [.str a, .str b]) S = some (.bl (decide (a = x) || decide (b = x))) := by
  unfold inD
  simp [D.py, D.pys, PyData.eqv, PyData.depth, PyData.depthAll, anyE, beqS]
end Sm
/-! P5 -/
namespace Sm
open PySem PySem.Spec L2
/-! ### loops and comprehensions by what stays true -/
theorem for_inv {t : Tg} {b : Env → M Out} {I : Nat → Env → Sto → Prop} : ∀ (ds : List D) (k : Nat) (ρ : Env) (S : Sto), I k ρ S →
    (∀ i d ρ S, ds[i]? = some d → I (k + i) ρ S → ∃ ρ' ρ2 S2, bindD t d ρ = some ρ' ∧ (b ρ' S = .ok (.nx ρ2) S2 ∨ b ρ' S = .ok (.ct ρ2) S2) ∧ I (k + i + 1) ρ2 S2) →
    ∃ ρ' S', Sm.forM t b ds ρ S = .ok (.nx ρ') S' ∧ I (k + ds.length) ρ' S'
  | [], k, ρ, S, h, _ => ⟨ρ, S, rfl, h⟩
  | d :: ds, k, ρ, S, h, st => by
    obtain ⟨ρ', ρ2, S2, h1, h2, h3⟩ := st 0 d ρ S rfl h
    obtain ⟨ρ3, S3, h4, h5⟩ := for_inv ds (k + 1) ρ2 S2 h3 fun i d ρ S hd hi => by
      have e : k + 1 + i = k + (i + 1) := by omega
      rw [e] at hi ⊢
      exact st (i + 1) d ρ S (by simpa using hd) hi
    refine ⟨ρ3, S3, ?_, ?_⟩
    · unfold Sm.forM
      rw [h1]
      rcases h2 with h2 | h2 <;> (simp only [e_bd, h2]; exact h4)
    · have e : k + (d :: ds).length = k + 1 + ds.length := by rw [List.length_cons]; omega
      rw [e]; exact h5
theorem lc_inv {bnd : D → Option Env} {e : Env → M D} {P : D → Prop} {I : Sto → Prop} : ∀ (ds : List D) (S : Sto), I S → (∀ d ∈ ds, ∃ ρ, bnd d = some ρ ∧ ∀ S, I S → ∃ y S', e ρ S = .ok y S' ∧ P y ∧ I S') →
    ∃ ys S', noX (lcM bnd (fun _ => rt true) e ds) S = .ok ys S' ∧ lcM bnd (fun _ => rt true) e ds S = .ok ys S' ∧ ys.length = ds.length ∧ (∀ y ∈ ys, P y) ∧ I S'
  | [], S, h, _ => ⟨[], S, rfl, rfl, rfl, fun _ h => by (cases h), h⟩
  | d :: ds, S, h, st => by
    obtain ⟨ρ, h1, h2⟩ := st d List.mem_cons_self
    obtain ⟨y, S1, h3, h4, h5⟩ := h2 S h
    obtain ⟨ys, S2, h6, h7, h8, h9, h10⟩ := lc_inv ds S1 h5 fun d hd => st d (List.mem_cons_of_mem _ hd)
    have key : lcM bnd (fun _ => rt true) e (d :: ds) S = .ok (y :: ys) S2 := by
      unfold lcM
      rw [h1]
      simp [h3, h7]
    refine ⟨y :: ys, S2, ?_, key, by simp [h8], fun z hz => ?_, h10⟩
    · unfold noX
      rw [key]
    · rcases List.mem_cons.mp hz with rfl | hz
      · exact h4
      · exact h9 z hz
theorem list_of {α : Type} {f : α → D} {Q : α → Prop} : ∀ {ys : List D}, (∀ y ∈ ys, ∃ a, y = f a ∧ Q a) → ∃ as : List α, ys = as.map f ∧ ∀ a ∈ as, Q a
  | [], _ => ⟨[], rfl, fun _ h => by (cases h)⟩
  | y :: ys, h => by
    obtain ⟨a, e, q⟩ := h y List.mem_cons_self
    obtain ⟨as, e2, q2⟩ := list_of (ys := ys) fun z hz => h z (List.mem_cons_of_mem _ hz)
    refine ⟨a :: as, by rw [e, e2]; rfl, fun b hb => ?_⟩
    rcases List.mem_cons.mp hb with rfl | hb
    · exact q
    · exact q2 b hb
@[simp] theorem e_tupleL (ds : List D) (S : Sto) : tupleD [.lst ds] S = some (.tup ds) := rfl
@[simp] theorem e_tupleT (ds : List D) (S : Sto) : tupleD [.tup ds] S = some (.tup ds) := rfl
theorem e_appS {i : Nat} {m : Env → M D} {ρ : Env} {S S' : Sto} {ds : List D} {d : D} (h : ρ[i]? = some (.own ds)) (h1 : m ρ S = .ok d S') (hl : ds.length < 100000) : appS i m ρ S = .ok (.nx (ρ.set i (.own (ds ++ [d])))) S' := by
  unfold appS bd ownAt
  simp only [h, h1]
  exact if_pos hl
end Sm
/-! P7 -/
namespace Sm
open PySem PySem.Spec L2
@[simp] theorem e_orT (a b : M Bool) (S : Sto) : orT a b S = match a S with
  | .ok true S' => .ok true S'
  | .ok false S' => b S'
  | .err k fs S' => .err k fs S'
  | .stuck => .stuck := by
  unfold orT bd
  cases a S with
  | ok x S' => cases x <;> rfl
  | err k fs S' => rfl
  | stuck => rfl
@[simp] theorem e_andT (a b : M Bool) (S : Sto) : andT a b S = match a S with
  | .ok true S' => b S'
  | .ok false S' => .ok false S'
  | .err k fs S' => .err k fs S'
  | .stuck => .stuck := by
  unfold andT bd
  cases a S with
  | ok x S' => cases x <;> rfl
  | err k fs S' => rfl
  | stuck => rfl
@[simp] theorem e_notT (a : M Bool) (S : Sto) : notT a S = match a S with
  | .ok b S' => .ok (!b) S'
  | .err k fs S' => .err k fs S'
  | .stuck => .stuck := by
  unfold notT bd
  cases a S <;> rfl
theorem e_negI {m : M D} {S S' : Sto} {i : Int} (h : m S = .ok (.int i) S') : negM m S = .ok (.int (-i)) S' := by
  unfold negM bd
  rw [h]
@[simp] theorem e_neg1 (i : Int) (S : Sto) : negM (rt (.int i)) S = .ok (.int (-i)) S := e_negI rfl
@[simp] theorem e_atm2 {α : Type} (a b : α) : L2.atI [a, b] (-1) = some b := L2.atI_last [a] b
@[simp] theorem e_atm3 {α : Type} (a b c : α) : L2.atI [a, b, c] (-1) = some c := L2.atI_last [a, b] c
@[simp] theorem e_op1 (f : D → Sto → Option D) (x : D) (S : Sto) : op1 f x S = match f x S with
  | some d => .ok d S
  | none => .stuck := rfl
@[simp] theorem e_isN0 (S : Sto) (b : Bool) : isN b .non S = some (.bl (!b)) := rfl
@[simp] theorem e_isNi (i : Int) (S : Sto) (b : Bool) : isN b (.int i) S = some (.bl b) := rfl
@[simp] theorem e_isNt (ds : List D) (S : Sto) (b : Bool) : isN b (.tup ds) S = some (.bl b) := rfl
@[simp] theorem e_isNs (z : Str) (S : Sto) (b : Bool) : isN b (.str z) S = some (.bl b) := rfl
end Sm
/-! P10 -/
namespace Sm
open PySem PySem.Spec L2
@[simp] theorem e_andV (a b : M D) (S : Sto) : andV a b S = match a S with
  | .ok (.bl true) S' => b S'
  | .ok (.bl false) S' => .ok (.bl false) S'
  | .ok _ _ => .stuck
  | .err k fs S' => .err k fs S'
  | .stuck => .stuck := by
  unfold andV bd
  cases a S with
  | ok x S' =>
    cases x with
    | bl t => cases t <;> rfl
    | _ => rfl
  | err k fs S' => rfl
  | stuck => rfl
@[simp] theorem e_orV (a b : M D) (S : Sto) : orV a b S = match a S with
  | .ok (.bl true) S' => .ok (.bl true) S'
  | .ok (.bl false) S' => b S'
  | .ok _ _ => .stuck
  | .err k fs S' => .err k fs S'
  | .stuck => .stuck := by
  unfold orV bd
  cases a S with
  | ok x S' =>
    cases x with
    | bl t => cases t <;> rfl
    | _ => rfl
  | err k fs S' => rfl
  | stuck => rfl
@[simp] theorem e_notV (a : M D) (S : Sto) : notV a S = match a S with
  | .ok (.bl t) S' => .ok (.bl (!t)) S'
  | .ok _ _ => .stuck
  | .err k fs S' => .err k fs S'
  | .stuck => .stuck := by
  unfold notV bd
  cases a S with
  | ok x S' => cases x <;> rfl
  | err k fs S' => rfl
  | stuck => rfl
theorem e_chain {f g : D → D → Sto → Option D} {x y z : M D} {S : Sto} {a b d : D} {t u : Bool} (h1 : x S = .ok a S) (h2 : y S = .ok b S) (h4 : z S = .ok d S) (h3 : f a b S = some (.bl t)) (h5 : g b d S = some (.bl u)) : chainM f g x y z S = .ok (.bl (t && u)) S := by
  unfold chainM
  simp only [e_bd, h1, h2, e_op2, h3, e_asB, e_iteM]
  cases t with
  | true => simp [h4, h5]
  | false => simp
@[simp] theorem e_isi_ii (i : Int) (S : Sto) : isiD [.int i, .ty "int"] S = some (.bl true) := rfl
@[simp] theorem e_isi_ib (i : Int) (S : Sto) : isiD [.int i, .ty "bool"] S = some (.bl false) := rfl
@[simp] theorem e_isi_ss (i : Str) (S : Sto) : isiD [.str i, .ty "str"] S = some (.bl true) := rfl
@[simp] theorem e_isi_is (i : Int) (S : Sto) : isiD [.int i, .ty "str"] S = some (.bl false) := rfl
@[simp] theorem e_isi_tt (ds : List D) (S : Sto) : isiD [.tup ds, .ty "tuple"] S = some (.bl true) := rfl
@[simp] theorem e_isi_il (i : Int) (S : Sto) : isiD [.int i, .ty "list"] S = some (.bl false) := rfl
@[simp] theorem e_isi_ll (ds : List D) (S : Sto) : isiD [.lst ds, .ty "list"] S = some (.bl true) := rfl
end Sm
/-! P12 -/
namespace Sm
open PySem PySem.Spec L2
@[simp] theorem e_sl2 (a b : D) (S : Sto) : sliceT (.tup [a, b]) (some 1) none S = .ok (.tup [b]) S := rfl
@[simp] theorem e_sl3 (a b c : D) (S : Sto) : sliceT (.tup [a, b, c]) (some 1) none S = .ok (.tup [b, c]) S := rfl
@[simp] theorem e_parS2 (i j : Nat) (m : Env → M (List Slot)) (ρ : Env) (S : Sto) : parS [i, j] 2 m ρ S = match m ρ S with
  | .ok [a, b] S' => .ok (.nx ((ρ.set i a).set j b)) S'
  | .ok _ _ => .stuck
  | .err k fs S' => .err k fs S'
  | .stuck => .stuck := by
  unfold parS bd
  cases m ρ S with
  | ok ss S' =>
    match ss with
    | [] => rfl
    | [_] => rfl
    | [_, _] => rfl
    | _ :: _ :: _ :: r => simp
  | err k fs S' => rfl
  | stuck => rfl
end Sm
/-! P13 -/
namespace Sm
open PySem PySem.Spec L2
@[simp] theorem e_slot00 (d : D) (r : List D) (S : Sto) : slotM 0 0 (.ins 0 (d :: r)) S = .ok d S := rfl
@[simp] theorem e_slot10 (d : D) (r : List D) (S : Sto) : slotM 1 0 (.ins 1 (d :: r)) S = .ok d S := rfl
@[simp] theorem e_ins0 (fs : List D) (S : Sto) : insM 0 (.ins 0 fs) S = .ok (.ins 0 fs) S := rfl
@[simp] theorem e_ins1 (fs : List D) (S : Sto) : insM 1 (.ins 1 fs) S = .ok (.ins 1 fs) S := rfl
@[simp] theorem e_iso00 (fs : List D) (S : Sto) : isoD 4 [.ins 0 fs, .cls 0] S = some (.bl true) := rfl
@[simp] theorem e_iso11 (fs : List D) (S : Sto) : isoD 4 [.ins 1 fs, .cls 1] S = some (.bl true) := rfl
@[simp] theorem e_noX {α : Type} (m : M α) (S : Sto) : noX m S = match m S with
  | .ok a S' => .ok a S'
  | _ => .stuck := rfl
end Sm
/-! P15 -/
namespace Sm
open PySem PySem.Spec L2
theorem cut_to (ds : List D) (k : Nat) (S : Sto) : sliceL (.lst ds) none (some (k : Int)) S = .ok (ds.take k) S := by
  show Res.ok (cutL ds none (some (k : Int))) S = _
  unfold cutL
  rw [HT.sIx_nat, HT.sIx_none, List.drop_zero, Nat.sub_zero]
  congr 1
  by_cases h : k ≤ ds.length
  · rw [Nat.min_eq_left h]
  · rw [Nat.min_eq_right (by omega), List.take_of_length_le (Nat.le_refl _), List.take_of_length_le (by omega)]
theorem cut_from (ds : List D) (k : Nat) (S : Sto) : sliceL (.lst ds) (some (k : Int)) none S = .ok (ds.drop k) S := by
  show Res.ok (cutL ds (some (k : Int)) none) S = _
  unfold cutL
  rw [HT.sIx_nat, HT.sIx_none]
  congr 1
  by_cases h : k ≤ ds.length
  · rw [Nat.min_eq_left h, List.take_of_length_le (by rw [List.length_drop]; omega)]
  · rw [Nat.min_eq_right (by omega), List.drop_of_length_le (Nat.le_refl _), List.drop_of_length_le (by omega)]
    simp
theorem e_addL {a b : List D} (h : a.length + b.length ≤ 100000) (S : Sto) : addL (.lst a) (.lst b) S = some (a ++ b) := if_pos h
end Sm
/-! P16 -/
namespace Sm
open PySem PySem.Spec L2
@[simp] theorem e_o2N (f : D → D → Sto → Option (List D)) (a b : M D) (S : Sto) : o2N f a b S = match a S with
  | .ok x S1 => (match b S1 with
    | .ok y S2 => (match f x y S2 with
      | some d => .ok d S2
      | none => .stuck)
    | .err k fs S' => .err k fs S'
    | .stuck => .stuck)
  | .err k fs S' => .err k fs S'
  | .stuck => .stuck := by
  unfold o2N bd op2N
  cases a S with
  | ok x S1 =>
    dsimp only
    cases b S1 with
    | ok y S2 =>
      dsimp only <;> (cases f x y S2 <;> rfl)
    | err k fs S' => rfl
    | stuck => rfl
  | err k fs S' => rfl
  | stuck => rfl
end Sm
/-! P19 -/
namespace Sm
open PySem PySem.Spec L2
/-- a comprehension without effects -/
theorem lc_pure {bnd : D → Option Env} {t : Env → M Bool} {e : Env → M D} {f : D → Option D} {S : Sto} : ∀ (ds : List D), (∀ d ∈ ds, ∃ ρ, bnd d = some ρ ∧ ((f d = none ∧ t ρ S = .ok false S) ∨ ∃ y, f d = some y ∧ t ρ S = .ok true S ∧ e ρ S = .ok y S)) →
    lcM bnd t e ds S = .ok (ds.filterMap f) S
  | [], _ => rfl
  | d :: ds, h => by
    obtain ⟨ρ, h1, h2⟩ := h d List.mem_cons_self
    have ih := lc_pure ds fun d hd => h d (List.mem_cons_of_mem _ hd)
    unfold lcM
    rw [h1]
    rcases h2 with ⟨h2, h3⟩ | ⟨y, h2, h3, h4⟩
    · rw [List.filterMap_cons_none h2]
      simp [h3, ih]
    · rw [List.filterMap_cons_some h2]
      simp [h3, h4, ih]
theorem e_atN {α : Type} {xs : List α} {i : Nat} (h : i < xs.length) : L2.atI xs (i : Int) = some xs[i] := L2.atI_nat (List.getElem?_eq_getElem h)
theorem e_atS {α : Type} {xs : List α} {i : Nat} {v : α} (h : xs[i]? = some v) : L2.atI xs (i : Int) = some v := L2.atI_nat h
@[simp] theorem e_isNb (b : Bool) (S : Sto) (c : Bool) : isN c (.bl b) S = some (.bl c) := rfl
@[simp] theorem e_isNl (ds : List D) (S : Sto) (c : Bool) : isN c (.lst ds) S = some (.bl c) := rfl
@[simp] theorem e_eqNS (a : Str) (S : Sto) : eqD .non (.str a) S = some (.bl false) := by
  unfold eqD
  simp [D.py, PyData.eqv, PyData.depth]
theorem ints_py : ∀ is : List Nat, ∃ ps, D.pys (is.map fun i : Nat => D.int (i : Int)) = some ps ∧ PyData.depthAll ps ≤ 1 ∧ (ps = [] ↔ is = [])
  | [] => ⟨[], by simp [D.pys], by simp [PyData.depthAll], by simp⟩
  | i :: is => by
    obtain ⟨ps, h1, h2, h3⟩ := ints_py is
    refine ⟨.int (i : Int) :: ps, by simp [D.pys, D.py, h1], ?_, by simp⟩
    simp only [PyData.depthAll, PyData.depth]
    omega
theorem ne_nilI (is : List Nat) (S : Sto) : neD (.lst (is.map fun i : Nat => D.int (i : Int))) (.lst []) S = some (.bl (!is.isEmpty)) := by
  obtain ⟨ps, h1, h2, h3⟩ := ints_py is
  unfold neD
  simp only [D.py, h1, D.pys]
  rw [if_pos (by simp only [PyData.depth, PyData.depthAll]; omega)]
  cases ps with
  | nil =>
    rw [h3.mp rfl]
    rfl
  | cons p ps =>
    cases is with
    | nil => exact absurd (h3.mpr rfl) (by simp)
    | cons i is => rfl
theorem e_inRng {a b : M D} {S S1 S2 : Sto} {i j : Int} (h : a S = .ok (.int i) S1) (h2 : b S1 = .ok (.int j) S2) : inRngM a b S = .ok (decide (0 ≤ i ∧ i < j)) S2 := by
  unfold inRngM bd
  rw [h]
  dsimp only
  rw [h2]
@[simp] theorem e_asgT2 (i j : Nat) (m : Env → M D) (ρ : Env) (S : Sto) : asgT (.tup [i, j]) m ρ S = match m ρ S with
  | .ok (.tup [a, b]) S' => .ok (.nx ((ρ.set i (.val a)).set j (.val b))) S'
  | .ok d S' => (match bindD (.tup [i, j]) d ρ with
    | some ρ' => .ok (.nx ρ') S'
    | none => .stuck)
  | .err k fs S' => .err k fs S'
  | .stuck => .stuck := by
  unfold asgT bd
  cases m ρ S with
  | ok d S' =>
    dsimp only
    split
    · rename_i a b S2 heq
      cases heq
      rfl
    · rename_i heq
      cases heq
      cases bindD (.tup [i, j]) d ρ <;> rfl
    · rename_i heq; cases heq
    · rename_i heq; cases heq
  | err k fs S' => rfl
  | stuck => rfl
end Sm
/-! P21 -/
namespace Sm
open PySem PySem.Spec L2
@[simp] theorem e_at3 {α : Type} (a b c d : α) (r : List α) : L2.atI (a :: b :: c :: d :: r) 3 = some d := by
  have := L2.atI_nat (xs := a :: b :: c :: d :: r) (j := 3) (v := d) rfl
  simpa using this
@[simp] theorem e_kidx (ys : List Str) (m : M D) (S : Sto) : kidxM ys m S = match m S with
  | .ok (.str z) S' => (match idxS ys z with
    | some j => .ok (.int (j : Nat)) S'
    | none => .stuck)
  | .ok _ _ => .stuck
  | .err k fs S' => .err k fs S'
  | .stuck => .stuck := by
  unfold kidxM bd
  cases m S with
  | ok d S' => cases d <;> rfl
  | err k fs S' => rfl
  | stuck => rfl
theorem strs_py : ∀ is : List Str, ∃ ps, D.pys (is.map D.str) = some ps ∧ PyData.depthAll ps ≤ 1 ∧ ∀ z : Str, idxE ps (.str z) = idxS is z
  | [] => ⟨[], by simp [D.pys], by simp [PyData.depthAll], fun z => by simp [idxE, idxS]⟩
  | i :: is => by
    obtain ⟨ps, h1, h2, h3⟩ := strs_py is
    refine ⟨.str i :: ps, by simp [D.pys, D.py, h1], ?_, fun z => ?_⟩
    · simp only [PyData.depthAll, PyData.depth]
      omega
    · unfold idxE idxS
      rw [h3]
      simp [PyData.eqv, beqS]
theorem idx_strs (is : List Str) (z : Str) : idxD (.lst (is.map D.str)) (.str z) = (idxS is z).map fun (j : Nat) => D.int (j : Int) := by
  obtain ⟨ps, h1, h2, h3⟩ := strs_py is
  unfold idxD
  simp only [D.py, h1, h3]
  rw [if_pos (by simp only [PyData.depth]; omega)]
@[simp] theorem e_asgT3 (i j k : Nat) (m : Env → M D) (ρ : Env) (S : Sto) : asgT (.tup [i, j, k]) m ρ S = match m ρ S with
  | .ok (.tup [a, b, c]) S' => .ok (.nx (((ρ.set i (.val a)).set j (.val b)).set k (.val c))) S'
  | .ok d S' => (match bindD (.tup [i, j, k]) d ρ with
    | some ρ' => .ok (.nx ρ') S'
    | none => .stuck)
  | .err k fs S' => .err k fs S'
  | .stuck => .stuck := by
  unfold asgT bd
  cases m ρ S with
  | ok d S' =>
    dsimp only
    split
    · rename_i a b c S2 heq
      cases heq
      rfl
    · rename_i heq
      cases heq
      cases bindD (.tup [i, j, k]) d ρ <;> rfl
    · rename_i heq; cases heq
    · rename_i heq; cases heq
  | err k fs S' => rfl
  | stuck => rfl
end Sm
/-! P22 -/
namespace Sm
open PySem PySem.Spec L2
@[simp] theorem e_insS (i : Nat) (m : Env → M (List D)) (ρ : Env) (S : Sto) : insS i m ρ S = match ρ[i]? with
  | some (.own ds) => (match m ρ S with
    | .ok [.int k, d] S' => if ds.length < 100000 ∧ 0 ≤ k ∧ k < 100000 then .ok (.nx (ρ.set i (.own (ds.take k.toNat ++ [d] ++ ds.drop k.toNat)))) S' else .stuck
    | .ok _ _ => .stuck
    | .err k fs S' => .err k fs S'
    | .stuck => .stuck)
  | _ => .stuck := by
  unfold insS
  rw [e_bd]
  unfold ownAt
  cases ρ[i]? with
  | none => rfl
  | some s =>
    cases s with
    | own ds =>
      dsimp only
      unfold bd
      cases m ρ S with
      | ok as S' =>
        dsimp only
        split
        · rename_i k d
          rfl
        · rename_i h
          split
          · rename_i k d S2 heq
            injection heq with h1 h2
            exact absurd h1 (h _ _)
          · rename_i heq; rfl
          · rename_i heq; cases heq
          · rename_i heq; cases heq
      | err k fs S' => rfl
      | stuck => rfl
    | _ => rfl
@[simp] theorem e_popM (ρ : Env) (i : Nat) (m : M D) (S : Sto) : popM ρ i m S = match ρ[i]? with
  | some (.own ds) => (match m S with
    | .ok (.int k) S' => if 0 ≤ k ∧ k < 100000 then (match ds[k.toNat]? with
      | some d => .ok (d, ρ.set i (.own (ds.eraseIdx k.toNat))) S'
      | none => .stuck) else .stuck
    | .ok _ _ => .stuck
    | .err k fs S' => .err k fs S'
    | .stuck => .stuck)
  | _ => .stuck := by
  unfold popM
  rw [e_bd]
  unfold ownAt
  cases ρ[i]? with
  | none => rfl
  | some s =>
    cases s with
    | own ds =>
      dsimp only
      unfold bd
      cases m S with
      | ok a S' =>
        dsimp only
        cases a with
        | int k =>
          dsimp only <;> split <;> first | rfl | (cases ds[k.toNat]? <;> rfl)
        | _ => rfl
      | err k fs S' => rfl
      | stuck => rfl
    | _ => rfl
end Sm
/-! P23 -/
namespace Sm
open PySem PySem.Spec L2
theorem e_forC (t : Tg) (b : Env → M Out) (d : D) (ds : List D) (ρ : Env) (S : Sto) : Sm.forM t b (d :: ds) ρ S = match bindD t d ρ with
    | none => .stuck
    | some ρ' => match b ρ' S with
      | .ok (.nx ρ2) S' => Sm.forM t b ds ρ2 S'
      | .ok (.ct ρ2) S' => Sm.forM t b ds ρ2 S'
      | .ok (.bk ρ2) S' => .ok (.nx ρ2) S'
      | .ok (.ret d) S' => .ok (.ret d) S'
      | .err k fs S' => .err k fs S'
      | .stuck => .stuck := by
  rw [Sm.forM]
  cases bindD t d ρ with
  | none => rfl
  | some ρ' =>
    dsimp only
    unfold bd
    cases b ρ' S with
    | ok o S' => cases o <;> rfl
    | err k fs S' => rfl
    | stuck => rfl
@[simp] theorem e_forN (t : Tg) (b : Env → M Out) (ρ : Env) (S : Sto) : Sm.forM t b [] ρ S = .ok (.nx ρ) S := rfl
@[simp] theorem e_appS' (i : Nat) (m : Env → M D) (ρ : Env) (S : Sto) : appS i m ρ S = match ρ[i]? with
  | some (.own ds) => (match m ρ S with
    | .ok d S' => if ds.length < 100000 then .ok (.nx (ρ.set i (.own (ds ++ [d])))) S' else .stuck
    | .err k fs S' => .err k fs S'
    | .stuck => .stuck)
  | _ => .stuck := by
  unfold appS
  rw [e_bd]
  unfold ownAt
  cases ρ[i]? with
  | none => rfl
  | some s =>
    cases s with
    | own ds =>
      dsimp only
      unfold bd
      cases m ρ S <;> rfl
    | _ => rfl
@[simp] theorem e_parS3 (i j k : Nat) (m : Env → M (List Slot)) (ρ : Env) (S : Sto) : parS [i, j, k] 3 m ρ S = match m ρ S with
  | .ok [a, b, c] S' => .ok (.nx (((ρ.set i a).set j b).set k c)) S'
  | .ok _ _ => .stuck
  | .err k fs S' => .err k fs S'
  | .stuck => .stuck := by
  unfold parS bd
  cases m ρ S with
  | ok ss S' =>
    match ss with
    | [] => rfl
    | [_] => rfl
    | [_, _] => rfl
    | [_, _, _] => rfl
    | _ :: _ :: _ :: _ :: r => simp
  | err k fs S' => rfl
  | stuck => rfl
end Sm
/-! P26 -/
namespace Sm
open PySem PySem.Spec L2
theorem rng_succ (lo : Int) (n : Nat) : rng lo (n + 1) = .int lo :: rng (lo + 1) n := by
  unfold rng
  rw [List.range_succ_eq_map, List.map_cons, List.map_map]
  congr 1
  · simp
  · apply List.map_congr_left
    intro i _
    show D.int (lo + ((i + 1 : Nat) : Int)) = D.int (lo + 1 + (i : Int))
    congr 1
    omega
@[simp] theorem e_eqIS (i : Int) (s : Str) (S : Sto) : eqD (.int i) (.str s) S = some (.bl false) := by
  unfold eqD
  simp [D.py, PyData.eqv, PyData.depth]
@[simp] theorem e_eqLS (i : Int) (s : Str) (S : Sto) : eqD (.lst [.int i]) (.str s) S = some (.bl false) := by
  unfold eqD
  simp [D.py, D.pys, PyData.eqv, PyData.depth, PyData.depthAll]
end Sm
/-! P29 -/
namespace Sm
open PySem PySem.Spec L2
@[simp] theorem e_max2 (i j : Int) (S : Sto) : max2D [.int i, .int j] S = some (.int (if j > i then j else i)) := rfl
@[simp] theorem e_min2 (i j : Int) (S : Sto) : min2D [.int i, .int j] S = some (.int (if j < i then j else i)) := rfl
theorem e_range3 {m : M (List D)} {S S' : Sto} {i j k : Int} (h : m S = .ok [.int i, .int j, .int k] S') (hc : rgCB i j k (Builtin.Range.rangeSize i j k).toNat = true) : range3M m S = .ok (rngC i k (Builtin.Range.rangeSize i j k).toNat) S' := by
  unfold range3M bd
  rw [h]
  exact if_pos hc
theorem cut_scr (ds : List D) (k : Nat) (S : Sto) : sliceL (.scr ds) none (some (k : Int)) S = .ok (ds.take k) S := by
  have := cut_to ds k S
  exact this
theorem rng0 (n : Nat) : rng 0 n = (List.range n).map fun i : Nat => D.int (i : Int) := by
  unfold rng
  apply List.map_congr_left
  intro i _
  simp
/-- a comprehension without effects over a mapped list -/
theorem lc_mapF {α : Type} {bnd : D → Option Env} {t : Env → M Bool} {e : Env → M D} {f g : α → D} {p : α → Bool} {S : Sto} : ∀ (xs : List α), (∀ x ∈ xs, ∃ ρ, bnd (f x) = some ρ ∧ t ρ S = .ok (p x) S ∧ (p x = true → e ρ S = .ok (g x) S)) →
    lcM bnd t e (xs.map f) S = .ok ((xs.filter p).map g) S
  | [], _ => rfl
  | x :: xs, h => by
    obtain ⟨ρ, h1, h2, h3⟩ := h x List.mem_cons_self
    have ih := lc_mapF xs fun y hy => h y (List.mem_cons_of_mem _ hy)
    rw [List.map_cons]
    unfold lcM
    rw [h1]
    cases hp : p x with
    | true =>
      rw [hp] at h2
      rw [List.filter_cons_of_pos hp]
      simp [h2, h3 hp, ih]
    | false =>
      rw [hp] at h2
      rw [List.filter_cons_of_neg (by simp [hp])]
      simp [h2, ih]
theorem lc_map {α : Type} {bnd : D → Option Env} {e : Env → M D} {f g : α → D} {S : Sto} (xs : List α) (h : ∀ x ∈ xs, ∃ ρ, bnd (f x) = some ρ ∧ e ρ S = .ok (g x) S) :
    lcM bnd (fun _ => rt true) e (xs.map f) S = .ok (xs.map g) S := by
  have := lc_mapF (bnd := bnd) (t := fun _ => rt true) (e := e) (f := f) (g := g) (p := fun _ => true) (S := S) xs fun x hx => by
    obtain ⟨ρ, h1, h2⟩ := h x hx
    exact ⟨ρ, h1, rfl, fun _ => h2⟩
  rw [List.filter_eq_self.mpr (fun _ _ => rfl)] at this
  exact this
end Sm

/-! text: Q2 -/
set_option Elab.async false
set_option linter.all false
set_option maxRecDepth 100000
set_option maxHeartbeats 1000000
namespace Sm
open PySem PySem.Spec L2
theorem e_addT {a b : List D} (h : a.length + b.length ≤ 100000) (S : Sto) : addA (.tup a) (.tup b) S = some (.tup (a ++ b)) := by
  have e1 : addI (.tup a) (.tup b) S = none := rfl
  have e2 : addS (.tup a) (.tup b) S = none := rfl
  simp only [addA, orD, e1, e2, addT, h, if_true]
end Sm
namespace Pu
open PySem PySem.Spec L2 Sm Wk
theorem cell_at (ns : List Int) (k : Nat) (S : Sto) : m__law_cell_at [.lst (ns.map D.int), .int k] S = .ok (.int (ns.getD k 0)) S := by
  unfold m__law_cell_at b__law_cell_at
  by_cases h : k < ns.length
  · have e : L2.atI (ns.map D.int) (k : Int) = some (.int (ns.getD k 0)) := L2.atI_nat (by simp [h])
    simp [h, e]
  · simp [h]
def primes : List Int := [1000003, 1000033, 1000037, 1000039, 1000081, 1000099, 1000117, 1000121, 1000133, 1000151, 1000159, 1000171, 1000183, 1000187, 1000193, 1000199]
theorem prime_at (k : Int) : ∃ p : Int, 0 < p ∧ L2.atI (primes.map D.int) (k % 16) = some (.int p) := by
  have h16 : ∃ j : Nat, k % 16 = (j : Int) ∧ j < 16 := ⟨(k % 16).toNat, by omega, by omega⟩
  obtain ⟨j, hj, hj2⟩ := h16
  have hl : j < primes.length := hj2
  refine ⟨primes[j], ?_, ?_⟩
  · have : ∀ p ∈ primes, 0 < p := by decide
    exact this _ (List.getElem_mem hl)
  · rw [hj]
    exact L2.atI_nat (by simp [hl])
/-- _law_draw: a number below the bound -/
theorem draw (i k b : Int) (hk : 0 ≤ k ∧ k < 2 ^ 60) (hb : 0 < b) (S : Sto) : ∃ r, m__law_draw [.int i, .int k, .int b] S = .ok (.int r) S ∧ 0 ≤ r ∧ r < b := by
  unfold m__law_draw b__law_draw
  obtain ⟨p, hp, ep⟩ := prime_at k
  unfold primes at ep
  simp only [List.map_cons, List.map_nil] at ep
  refine ⟨((i * 48271 + k * 69621) % p) % b, ?_, Int.emod_nonneg _ (by omega), Int.emod_lt_of_pos _ hb⟩
  have m1 : ∀ S, mulA (.int i) (.int 48271) S = some (.int (i * 48271)) := fun S => e_mul (.inr (by decide)) S
  have m2 : ∀ S, mulA (.int k) (.int 69621) S = some (.int (k * 69621)) := fun S => e_mul (.inr (by decide)) S
  have m3 : ∀ S, modI (.int k) (.int 16) S = some (.int (k % 16)) := fun S => e_mod (by decide) S
  simp [m1, m2, m3, ep, e_mod hp, e_mod hb, e_addT]
theorem pow_loop (a b c : Slot) : ∀ (ds : List D) (p : Int) (x e f : Slot) (S : Sto), ∃ y, Sm.forM (.one 4) (setV 3 fun ρ => (o2 mulA (vb ρ 3) (rt (.int 1009)))) ds [a, b, c, .val (.int p), x, e, f] S = .ok (.nx [a, b, c, .val (.int (p * 1009 ^ ds.length)), y, e, f]) S
  | [], p, x, e, f, S => ⟨x, by simp [Sm.forM]⟩
  | d :: ds, p, x, e, f, S => by
    have m1 : ∀ S, mulA (.int p) (.int 1009) S = some (.int (p * 1009)) := fun S => e_mul (.inr (by decide)) S
    obtain ⟨y, h⟩ := pow_loop a b c ds (p * 1009) (.val d) e f S
    refine ⟨y, ?_⟩
    unfold Sm.forM
    simp [bindD, m1, h]
    rw [Int.pow_succ, Int.mul_assoc, Int.mul_comm 1009]
theorem number (cell k b : Int) (hk : 0 ≤ k ∧ k ≤ 100) (hb : 0 < b) (S : Sto) : ∃ r, m__law_number [.int cell, .int k, .int b] S = .ok (.int r) S ∧ 0 ≤ r ∧ r < b := by
  obtain ⟨n, hn, hn2⟩ : ∃ n : Nat, k % 24 = (n : Int) ∧ n < 24 := ⟨(k % 24).toNat, by omega, by omega⟩
  have hr : ∀ ρ S, vb ρ 1 S = .ok (.int k) S → range1M (consM (o2 modI (c1 intD (consM (vb ρ 1) (rt []))) (rt (.int 24))) (rt [])) S = .ok (rng 0 n) S := fun ρ S h => by
    refine e_range1 (n := n) ?_ (by omega)
    have m1 : ∀ S, modI (.int k) (.int 24) S = some (.int (k % 24)) := fun S => e_mod (by decide) S
    simp only [e_consM, e_o2, e_c1, h, e_rt, e_int, e_op2, m1, hn]
  obtain ⟨y, hl⟩ := pow_loop (.val (.int cell)) (.val (.int k)) (.val (.int b)) (rng 0 n) 1 .no .no .no S
  rw [rng_len, Int.one_mul] at hl
  have hpow : (0 : Int) < 1009 ^ n := Int.pow_pos (by decide)
  have hpow2 : (1009 : Int) ^ n < 2 ^ 1000 := by
    have h1 : 1009 ^ n ≤ 1009 ^ 23 := Nat.pow_le_pow_right (by decide) (by omega)
    have h2 : (1009 : Nat) ^ 23 < 2 ^ 1000 := by decide +kernel
    have h3 : (1009 : Nat) ^ n < 2 ^ 1000 := Nat.lt_of_le_of_lt h1 h2
    exact_mod_cast h3
  have d1 : ∀ (i : Int) S, divI (.int i) (.int (1009 ^ n)) S = some (.int (i / 1009 ^ n)) := fun i S => e_div hpow hpow2 S
  have p1 : ∀ S, powI (.int 10) (.int 18) S = some (.int (10 ^ 18)) := fun S => by rfl
  have m1 : ∀ (i : Int) S, modI (.int i) (.int 1009) S = some (.int (i % 1009)) := fun i S => e_mod (by decide) S
  have m2 : ∀ (i : Int) S, modI (.int i) (.int b) S = some (.int (i % b)) := fun i S => e_mod hb S
  have m3 : ∀ (i : Int) S, modI (.int i) (.int 1000003) S = some (.int (i % 1000003)) := fun i S => e_mod (by decide) S
  have m4 : ∀ (i : Int) S, modI (.int i) (.int 9) S = some (.int (i % 9)) := fun i S => e_mod (by decide) S
  unfold m__law_number b__law_number
  by_cases hp : 0 < (cell - 10 ^ 18) / 1009 ^ n
  · refine ⟨((cell - 10 ^ 18) / 1009 ^ n) % 1009 % b, ?_, Int.emod_nonneg _ (by omega), Int.emod_lt_of_pos _ hb⟩
    simp only [e_fnM, e_seqS, e_setV, e_rt, e_bd, List.map_cons, List.map_nil, List.length_cons, List.length_nil, List.replicate, List.cons_append, List.nil_append, List.set_cons_succ, List.set_cons_zero]
    rw [hr _ _ (by simp)]
    have hp' : 0 < (cell - 1000000000000000000) / 1009 ^ n := hp
    simp [hl, d1, p1, m1, m2, hp']
  · have hp' : ¬ 0 < (cell - 1000000000000000000) / 1009 ^ n := hp
    have hs := Int.emod_nonneg cell (show (1000003 : Int) ≠ 0 by decide)
    have hs2 := Int.emod_lt_of_pos cell (show (0 : Int) < 1000003 by decide)
    have mk1 : ∀ S, mulA (.int 977) (.int k) S = some (.int (977 * k)) := fun S => e_mul (.inl (by decide)) S
    have mk2 : ∀ S, mulA (.int 31) (.int k) S = some (.int (31 * k)) := fun S => e_mul (.inl (by decide)) S
    have mk3 : ∀ S, mulA (.int (cell % 1000003 + 977 * k)) (.int (cell % 1000003 + 31 * k + 5)) S = some (.int ((cell % 1000003 + 977 * k) * (cell % 1000003 + 31 * k + 5))) := fun S => e_mul (.inl (by constructor <;> omega)) S
    obtain ⟨r, h1, h2, h3⟩ := draw ((cell % 1000003 + 977 * k) * (cell % 1000003 + 31 * k + 5)) (k % 9 + 1) 999983 (by omega) (by decide) S
    refine ⟨r % b, ?_, Int.emod_nonneg _ (by omega), Int.emod_lt_of_pos _ hb⟩
    simp only [e_fnM, e_seqS, e_setV, e_rt, e_bd, List.map_cons, List.map_nil, List.length_cons, List.length_nil, List.replicate, List.cons_append, List.nil_append, List.set_cons_succ, List.set_cons_zero]
    rw [hr _ _ (by simp)]
    simp [hl, d1, p1, m1, m2, m3, m4, mk1, mk2, mk3, h1, hp']
end Pu

/-! text: Q3 -/
set_option Elab.async false
set_option linter.all false
set_option maxRecDepth 100000
set_option maxHeartbeats 1000000
namespace Pu
open PySem PySem.Spec L2 Sm Wk
/-- the list of draws stands at n -/
def Draw (n : Nat) (S : Sto) : Prop := ∃ (ns : List Int) (by_ cnt : Int), S[n]? = some (.lst [.lst (ns.map D.int), .int by_, .int cnt]) ∧ 0 ≤ by_ ∧ 0 ≤ cnt
theorem e_setIxR {i n : Nat} {m mk : Sm.Env → M D} {ρ : Sm.Env} {S S1 S2 : Sto} {v : D} {k : Int} {j : Nat} {ds : List D} (h1 : m ρ S = .ok v S1) (h2 : ρ[i]? = some (.val (.ref n))) (h3 : mk ρ S1 = .ok (.int k) S2) (h4 : S2[n]? = some (.lst ds)) (h5 : L2.ixN ds.length k = some j) :
    setIx i m mk ρ S = .ok (.nx ρ) (S2.set n (.lst (ds.set j v))) := by
  unfold setIx
  simp only [e_bd, h1, h2, opt, h3]
  unfold setAt
  simp only [h2, h4, h5]
theorem next (n : Nat) (b : Int) (hb : 0 < b) (S : Sto) (hd : Draw n S) : ∃ r S', m__law_next [.ref n, .int b] S = .ok (.int r) S' ∧ 0 ≤ r ∧ r < b ∧ Draw n S' ∧ S'.length = S.length := by
  obtain ⟨ns, by_, cnt, h, h1, h2⟩ := hd
  have hlt : n < S.length := (List.getElem?_eq_some_iff.mp h).1
  let S' := S.set n (.lst [.lst (ns.map D.int), .int by_, .int (cnt + 1)])
  have hS' : S'[n]? = some (.lst [.lst (ns.map D.int), .int by_, .int (cnt + 1)]) := List.getElem?_set_self hlt
  have e2 : ∀ i, ixD (.ref n) (.int i) S = L2.atI [.lst (ns.map D.int), .int by_, .int cnt] i := fun i => e_ixR h i
  have e2' : ∀ i, ixD (.ref n) (.int i) S' = L2.atI [.lst (ns.map D.int), .int by_, .int (cnt + 1)] i := fun i => e_ixR hS' i
  have d1 : ∀ S, divI (.int (cnt + 1)) (.int 12) S = some (.int ((cnt + 1) / 12)) := fun S => e_div (by decide) (by decide +kernel) S
  have m1 : ∀ S, modI (.int (cnt + 1)) (.int 12) S = some (.int ((cnt + 1) % 12)) := fun S => e_mod (by decide) S
  have hat : 0 ≤ (cnt + 1) / 12 := Int.ediv_nonneg (by omega) (by decide)
  have m2 : ∀ S, mulA (.int 31) (.int ((cnt + 1) / 12)) S = some (.int (31 * ((cnt + 1) / 12))) := fun S => e_mul (.inl (by decide)) S
  obtain ⟨q, hq⟩ : ∃ q : Nat, by_ + (cnt + 1) / 12 = (q : Int) := ⟨(by_ + (cnt + 1) / 12).toNat, by omega⟩
  obtain ⟨r, hr, r1, r2⟩ := number (ns.getD q 0 + 31 * ((cnt + 1) / 12)) ((cnt + 1) % 12 + 1) b (by omega) hb S'
  refine ⟨r, S', ?_, r1, r2, ⟨ns, by_, cnt + 1, hS', h1, by omega⟩, by simp [S']⟩
  unfold m__law_next b__law_next
  rw [e_fnM, e_seqS, e_setIxR (n := n) (k := 2) (j := 2) (v := .int (cnt + 1)) (S1 := S) (S2 := S) (ds := [.lst (ns.map D.int), .int by_, .int cnt]) (by simp [e2]) rfl rfl h rfl]
  have eS : S.set n (.lst (List.set [.lst (ns.map D.int), .int by_, .int cnt] 2 (.int (cnt + 1)))) = S' := rfl
  simp only [eS]
  rw [List.getD_eq_getElem?_getD] at hr
  simp [e2', d1, m1, m2, hq, cell_at, hr]
/-- _law_pick: one of the things -/
theorem pick (n : Nat) (xs : List D) (hx : xs ≠ []) (S : Sto) (hd : Draw n S) : ∃ x S', m__law_pick [.ref n, .lst xs] S = .ok x S' ∧ x ∈ xs ∧ Draw n S' ∧ S'.length = S.length := by
  have hl : 0 < xs.length := List.length_pos_iff.mpr hx
  obtain ⟨r, S', h, h1, h2, h3, h4⟩ := next n xs.length (by omega) S hd
  obtain ⟨j, rfl⟩ : ∃ j : Nat, r = (j : Int) := ⟨r.toNat, by omega⟩
  have hj : j < xs.length := by omega
  refine ⟨xs[j], S', ?_, List.getElem_mem hj, h3, h4⟩
  have e : L2.atI xs (j : Int) = some xs[j] := L2.atI_nat (List.getElem?_eq_getElem hj)
  unfold m__law_pick b__law_pick
  simp [h, e]
theorem pickS (n : Nat) (z : Str) (hz : z.cps.toList ≠ []) (hz2 : z.length = z.cps.toList.length ∧ z.length ≤ 100000) (S : Sto) (hd : Draw n S) : ∃ x S', m__law_pick [.ref n, .str z] S = .ok (.str ⟨#[x]⟩) S' ∧ x ∈ z.cps.toList ∧ Draw n S' ∧ S'.length = S.length := by
  have hl : 0 < z.cps.toList.length := List.length_pos_iff.mpr hz
  obtain ⟨r, S', h, h1, h2, h3, h4⟩ := next n z.length (by omega) S hd
  obtain ⟨j, rfl⟩ : ∃ j : Nat, r = (j : Int) := ⟨r.toNat, by omega⟩
  have hj : j < z.cps.toList.length := by omega
  refine ⟨z.cps.toList[j], S', ?_, List.getElem_mem hj, h3, h4⟩
  have e : L2.atI z.cps.toList (j : Int) = some z.cps.toList[j] := L2.atI_nat (List.getElem?_eq_getElem hj)
  have e1 : ∀ S, lenD [.str z] S = some (.int z.length) := fun S => if_pos hz2.2
  have e2 : ∀ S, ixD (.str z) (.int (j : Int)) S = some (.str ⟨#[z.cps.toList[j]]⟩) := fun S => by
    show (if _ then _ else _) = _
    rw [if_pos hz2.2, e]
    rfl
  unfold m__law_pick b__law_pick
  simp only [e_fnM, e_bd, e_o2, e_consM, e_vl, e_vb, e_rt, e_c1, List.map_cons, List.map_nil, List.length_cons, List.length_nil, List.replicate, List.cons_append, List.nil_append, List.getElem?_cons_zero, List.getElem?_cons_succ, e1, e_call2, h, e_op2, e2]
end Pu

/-! text: QW -/
set_option Elab.async false
set_option linter.all false
set_option maxRecDepth 100000
set_option maxHeartbeats 1000000
namespace Pu
open PySem PySem.Spec L2 Sm Wk
/-! ### the words differ -/
@[simp] theorem w_put_out : (("put" : Str) = "out") = False := by decide +kernel
@[simp] theorem w_put_move : (("put" : Str) = "move") = False := by decide +kernel
@[simp] theorem w_put_copy : (("put" : Str) = "copy") = False := by decide +kernel
@[simp] theorem w_put_join : (("put" : Str) = "join") = False := by decide +kernel
@[simp] theorem w_put_number : (("put" : Str) = "number") = False := by decide +kernel
@[simp] theorem w_put_above : (("put" : Str) = "above") = False := by decide +kernel
@[simp] theorem w_put_below : (("put" : Str) = "below") = False := by decide +kernel
@[simp] theorem w_put_end : (("put" : Str) = "end") = False := by decide +kernel
@[simp] theorem w_put_label : (("put" : Str) = "label") = False := by decide +kernel
@[simp] theorem w_put_raw : (("put" : Str) = "raw") = False := by decide +kernel
@[simp] theorem w_put_shift : (("put" : Str) = "shift") = False := by decide +kernel
@[simp] theorem w_put_follow : (("put" : Str) = "follow") = False := by decide +kernel
@[simp] theorem w_put_old : (("put" : Str) = "old") = False := by decide +kernel
@[simp] theorem w_put_joined : (("put" : Str) = "joined") = False := by decide +kernel
@[simp] theorem w_put_new : (("put" : Str) = "new") = False := by decide +kernel
@[simp] theorem w_out_put : (("out" : Str) = "put") = False := by decide +kernel
@[simp] theorem w_out_move : (("out" : Str) = "move") = False := by decide +kernel
@[simp] theorem w_out_copy : (("out" : Str) = "copy") = False := by decide +kernel
@[simp] theorem w_out_join : (("out" : Str) = "join") = False := by decide +kernel
@[simp] theorem w_out_number : (("out" : Str) = "number") = False := by decide +kernel
@[simp] theorem w_out_above : (("out" : Str) = "above") = False := by decide +kernel
@[simp] theorem w_out_below : (("out" : Str) = "below") = False := by decide +kernel
@[simp] theorem w_out_end : (("out" : Str) = "end") = False := by decide +kernel
@[simp] theorem w_out_label : (("out" : Str) = "label") = False := by decide +kernel
@[simp] theorem w_out_raw : (("out" : Str) = "raw") = False := by decide +kernel
@[simp] theorem w_out_shift : (("out" : Str) = "shift") = False := by decide +kernel
@[simp] theorem w_out_follow : (("out" : Str) = "follow") = False := by decide +kernel
@[simp] theorem w_out_old : (("out" : Str) = "old") = False := by decide +kernel
@[simp] theorem w_out_joined : (("out" : Str) = "joined") = False := by decide +kernel
@[simp] theorem w_out_new : (("out" : Str) = "new") = False := by decide +kernel
@[simp] theorem w_move_put : (("move" : Str) = "put") = False := by decide +kernel
@[simp] theorem w_move_out : (("move" : Str) = "out") = False := by decide +kernel
@[simp] theorem w_move_copy : (("move" : Str) = "copy") = False := by decide +kernel
@[simp] theorem w_move_join : (("move" : Str) = "join") = False := by decide +kernel
@[simp] theorem w_move_number : (("move" : Str) = "number") = False := by decide +kernel
@[simp] theorem w_move_above : (("move" : Str) = "above") = False := by decide +kernel
@[simp] theorem w_move_below : (("move" : Str) = "below") = False := by decide +kernel
@[simp] theorem w_move_end : (("move" : Str) = "end") = False := by decide +kernel
@[simp] theorem w_move_label : (("move" : Str) = "label") = False := by decide +kernel
@[simp] theorem w_move_raw : (("move" : Str) = "raw") = False := by decide +kernel
@[simp] theorem w_move_shift : (("move" : Str) = "shift") = False := by decide +kernel
@[simp] theorem w_move_follow : (("move" : Str) = "follow") = False := by decide +kernel
@[simp] theorem w_move_old : (("move" : Str) = "old") = False := by decide +kernel
@[simp] theorem w_move_joined : (("move" : Str) = "joined") = False := by decide +kernel
@[simp] theorem w_move_new : (("move" : Str) = "new") = False := by decide +kernel
@[simp] theorem w_copy_put : (("copy" : Str) = "put") = False := by decide +kernel
@[simp] theorem w_copy_out : (("copy" : Str) = "out") = False := by decide +kernel
@[simp] theorem w_copy_move : (("copy" : Str) = "move") = False := by decide +kernel
@[simp] theorem w_copy_join : (("copy" : Str) = "join") = False := by decide +kernel
@[simp] theorem w_copy_number : (("copy" : Str) = "number") = False := by decide +kernel
@[simp] theorem w_copy_above : (("copy" : Str) = "above") = False := by decide +kernel
@[simp] theorem w_copy_below : (("copy" : Str) = "below") = False := by decide +kernel
@[simp] theorem w_copy_end : (("copy" : Str) = "end") = False := by decide +kernel
@[simp] theorem w_copy_label : (("copy" : Str) = "label") = False := by decide +kernel
@[simp] theorem w_copy_raw : (("copy" : Str) = "raw") = False := by decide +kernel
@[simp] theorem w_copy_shift : (("copy" : Str) = "shift") = False := by decide +kernel
@[simp] theorem w_copy_follow : (("copy" : Str) = "follow") = False := by decide +kernel
@[simp] theorem w_copy_old : (("copy" : Str) = "old") = False := by decide +kernel
@[simp] theorem w_copy_joined : (("copy" : Str) = "joined") = False := by decide +kernel
@[simp] theorem w_copy_new : (("copy" : Str) = "new") = False := by decide +kernel
@[simp] theorem w_join_put : (("join" : Str) = "put") = False := by decide +kernel
@[simp] theorem w_join_out : (("join" : Str) = "out") = False := by decide +kernel
@[simp] theorem w_join_move : (("join" : Str) = "move") = False := by decide +kernel
@[simp] theorem w_join_copy : (("join" : Str) = "copy") = False := by decide +kernel
@[simp] theorem w_join_number : (("join" : Str) = "number") = False := by decide +kernel
@[simp] theorem w_join_above : (("join" : Str) = "above") = False := by decide +kernel
@[simp] theorem w_join_below : (("join" : Str) = "below") = False := by decide +kernel
@[simp] theorem w_join_end : (("join" : Str) = "end") = False := by decide +kernel
@[simp] theorem w_join_label : (("join" : Str) = "label") = False := by decide +kernel
@[simp] theorem w_join_raw : (("join" : Str) = "raw") = False := by decide +kernel
@[simp] theorem w_join_shift : (("join" : Str) = "shift") = False := by decide +kernel
@[simp] theorem w_join_follow : (("join" : Str) = "follow") = False := by decide +kernel
@[simp] theorem w_join_old : (("join" : Str) = "old") = False := by decide +kernel
@[simp] theorem w_join_joined : (("join" : Str) = "joined") = False := by decide +kernel
@[simp] theorem w_join_new : (("join" : Str) = "new") = False := by decide +kernel
@[simp] theorem w_number_put : (("number" : Str) = "put") = False := by decide +kernel
@[simp] theorem w_number_out : (("number" : Str) = "out") = False := by decide +kernel
@[simp] theorem w_number_move : (("number" : Str) = "move") = False := by decide +kernel
@[simp] theorem w_number_copy : (("number" : Str) = "copy") = False := by decide +kernel
@[simp] theorem w_number_join : (("number" : Str) = "join") = False := by decide +kernel
@[simp] theorem w_number_above : (("number" : Str) = "above") = False := by decide +kernel
@[simp] theorem w_number_below : (("number" : Str) = "below") = False := by decide +kernel
@[simp] theorem w_number_end : (("number" : Str) = "end") = False := by decide +kernel
@[simp] theorem w_number_label : (("number" : Str) = "label") = False := by decide +kernel
@[simp] theorem w_number_raw : (("number" : Str) = "raw") = False := by decide +kernel
@[simp] theorem w_number_shift : (("number" : Str) = "shift") = False := by decide +kernel
@[simp] theorem w_number_follow : (("number" : Str) = "follow") = False := by decide +kernel
@[simp] theorem w_number_old : (("number" : Str) = "old") = False := by decide +kernel
@[simp] theorem w_number_joined : (("number" : Str) = "joined") = False := by decide +kernel
@[simp] theorem w_number_new : (("number" : Str) = "new") = False := by decide +kernel
@[simp] theorem w_above_put : (("above" : Str) = "put") = False := by decide +kernel
@[simp] theorem w_above_out : (("above" : Str) = "out") = False := by decide +kernel
@[simp] theorem w_above_move : (("above" : Str) = "move") = False := by decide +kernel
@[simp] theorem w_above_copy : (("above" : Str) = "copy") = False := by decide +kernel
@[simp] theorem w_above_join : (("above" : Str) = "join") = False := by decide +kernel
@[simp] theorem w_above_number : (("above" : Str) = "number") = False := by decide +kernel
@[simp] theorem w_above_below : (("above" : Str) = "below") = False := by decide +kernel
@[simp] theorem w_above_end : (("above" : Str) = "end") = False := by decide +kernel
@[simp] theorem w_above_label : (("above" : Str) = "label") = False := by decide +kernel
@[simp] theorem w_above_raw : (("above" : Str) = "raw") = False := by decide +kernel
@[simp] theorem w_above_shift : (("above" : Str) = "shift") = False := by decide +kernel
@[simp] theorem w_above_follow : (("above" : Str) = "follow") = False := by decide +kernel
@[simp] theorem w_above_old : (("above" : Str) = "old") = False := by decide +kernel
@[simp] theorem w_above_joined : (("above" : Str) = "joined") = False := by decide +kernel
@[simp] theorem w_above_new : (("above" : Str) = "new") = False := by decide +kernel
@[simp] theorem w_below_put : (("below" : Str) = "put") = False := by decide +kernel
@[simp] theorem w_below_out : (("below" : Str) = "out") = False := by decide +kernel
@[simp] theorem w_below_move : (("below" : Str) = "move") = False := by decide +kernel
@[simp] theorem w_below_copy : (("below" : Str) = "copy") = False := by decide +kernel
@[simp] theorem w_below_join : (("below" : Str) = "join") = False := by decide +kernel
@[simp] theorem w_below_number : (("below" : Str) = "number") = False := by decide +kernel
@[simp] theorem w_below_above : (("below" : Str) = "above") = False := by decide +kernel
@[simp] theorem w_below_end : (("below" : Str) = "end") = False := by decide +kernel
@[simp] theorem w_below_label : (("below" : Str) = "label") = False := by decide +kernel
@[simp] theorem w_below_raw : (("below" : Str) = "raw") = False := by decide +kernel
@[simp] theorem w_below_shift : (("below" : Str) = "shift") = False := by decide +kernel
@[simp] theorem w_below_follow : (("below" : Str) = "follow") = False := by decide +kernel
@[simp] theorem w_below_old : (("below" : Str) = "old") = False := by decide +kernel
@[simp] theorem w_below_joined : (("below" : Str) = "joined") = False := by decide +kernel
@[simp] theorem w_below_new : (("below" : Str) = "new") = False := by decide +kernel
@[simp] theorem w_end_put : (("end" : Str) = "put") = False := by decide +kernel
@[simp] theorem w_end_out : (("end" : Str) = "out") = False := by decide +kernel
@[simp] theorem w_end_move : (("end" : Str) = "move") = False := by decide +kernel
@[simp] theorem w_end_copy : (("end" : Str) = "copy") = False := by decide +kernel
@[simp] theorem w_end_join : (("end" : Str) = "join") = False := by decide +kernel
@[simp] theorem w_end_number : (("end" : Str) = "number") = False := by decide +kernel
@[simp] theorem w_end_above : (("end" : Str) = "above") = False := by decide +kernel
@[simp] theorem w_end_below : (("end" : Str) = "below") = False := by decide +kernel
@[simp] theorem w_end_label : (("end" : Str) = "label") = False := by decide +kernel
@[simp] theorem w_end_raw : (("end" : Str) = "raw") = False := by decide +kernel
@[simp] theorem w_end_shift : (("end" : Str) = "shift") = False := by decide +kernel
@[simp] theorem w_end_follow : (("end" : Str) = "follow") = False := by decide +kernel
@[simp] theorem w_end_old : (("end" : Str) = "old") = False := by decide +kernel
@[simp] theorem w_end_joined : (("end" : Str) = "joined") = False := by decide +kernel
@[simp] theorem w_end_new : (("end" : Str) = "new") = False := by decide +kernel
@[simp] theorem w_label_put : (("label" : Str) = "put") = False := by decide +kernel
@[simp] theorem w_label_out : (("label" : Str) = "out") = False := by decide +kernel
@[simp] theorem w_label_move : (("label" : Str) = "move") = False := by decide +kernel
@[simp] theorem w_label_copy : (("label" : Str) = "copy") = False := by decide +kernel
@[simp] theorem w_label_join : (("label" : Str) = "join") = False := by decide +kernel
@[simp] theorem w_label_number : (("label" : Str) = "number") = False := by decide +kernel
@[simp] theorem w_label_above : (("label" : Str) = "above") = False := by decide +kernel
@[simp] theorem w_label_below : (("label" : Str) = "below") = False := by decide +kernel
@[simp] theorem w_label_end : (("label" : Str) = "end") = False := by decide +kernel
@[simp] theorem w_label_raw : (("label" : Str) = "raw") = False := by decide +kernel
@[simp] theorem w_label_shift : (("label" : Str) = "shift") = False := by decide +kernel
@[simp] theorem w_label_follow : (("label" : Str) = "follow") = False := by decide +kernel
@[simp] theorem w_label_old : (("label" : Str) = "old") = False := by decide +kernel
@[simp] theorem w_label_joined : (("label" : Str) = "joined") = False := by decide +kernel
@[simp] theorem w_label_new : (("label" : Str) = "new") = False := by decide +kernel
@[simp] theorem w_raw_put : (("raw" : Str) = "put") = False := by decide +kernel
@[simp] theorem w_raw_out : (("raw" : Str) = "out") = False := by decide +kernel
@[simp] theorem w_raw_move : (("raw" : Str) = "move") = False := by decide +kernel
@[simp] theorem w_raw_copy : (("raw" : Str) = "copy") = False := by decide +kernel
@[simp] theorem w_raw_join : (("raw" : Str) = "join") = False := by decide +kernel
@[simp] theorem w_raw_number : (("raw" : Str) = "number") = False := by decide +kernel
@[simp] theorem w_raw_above : (("raw" : Str) = "above") = False := by decide +kernel
@[simp] theorem w_raw_below : (("raw" : Str) = "below") = False := by decide +kernel
@[simp] theorem w_raw_end : (("raw" : Str) = "end") = False := by decide +kernel
@[simp] theorem w_raw_label : (("raw" : Str) = "label") = False := by decide +kernel
@[simp] theorem w_raw_shift : (("raw" : Str) = "shift") = False := by decide +kernel
@[simp] theorem w_raw_follow : (("raw" : Str) = "follow") = False := by decide +kernel
@[simp] theorem w_raw_old : (("raw" : Str) = "old") = False := by decide +kernel
@[simp] theorem w_raw_joined : (("raw" : Str) = "joined") = False := by decide +kernel
@[simp] theorem w_raw_new : (("raw" : Str) = "new") = False := by decide +kernel
@[simp] theorem w_shift_put : (("shift" : Str) = "put") = False := by decide +kernel
@[simp] theorem w_shift_out : (("shift" : Str) = "out") = False := by decide +kernel
@[simp] theorem w_shift_move : (("shift" : Str) = "move") = False := by decide +kernel
@[simp] theorem w_shift_copy : (("shift" : Str) = "copy") = False := by decide +kernel
@[simp] theorem w_shift_join : (("shift" : Str) = "join") = False := by decide +kernel
@[simp] theorem w_shift_number : (("shift" : Str) = "number") = False := by decide +kernel
@[simp] theorem w_shift_above : (("shift" : Str) = "above") = False := by decide +kernel
@[simp] theorem w_shift_below : (("shift" : Str) = "below") = False := by decide +kernel
@[simp] theorem w_shift_end : (("shift" : Str) = "end") = False := by decide +kernel
@[simp] theorem w_shift_label : (("shift" : Str) = "label") = False := by decide +kernel
@[simp] theorem w_shift_raw : (("shift" : Str) = "raw") = False := by decide +kernel
@[simp] theorem w_shift_follow : (("shift" : Str) = "follow") = False := by decide +kernel
@[simp] theorem w_shift_old : (("shift" : Str) = "old") = False := by decide +kernel
@[simp] theorem w_shift_joined : (("shift" : Str) = "joined") = False := by decide +kernel
@[simp] theorem w_shift_new : (("shift" : Str) = "new") = False := by decide +kernel
@[simp] theorem w_follow_put : (("follow" : Str) = "put") = False := by decide +kernel
@[simp] theorem w_follow_out : (("follow" : Str) = "out") = False := by decide +kernel
@[simp] theorem w_follow_move : (("follow" : Str) = "move") = False := by decide +kernel
@[simp] theorem w_follow_copy : (("follow" : Str) = "copy") = False := by decide +kernel
@[simp] theorem w_follow_join : (("follow" : Str) = "join") = False := by decide +kernel
@[simp] theorem w_follow_number : (("follow" : Str) = "number") = False := by decide +kernel
@[simp] theorem w_follow_above : (("follow" : Str) = "above") = False := by decide +kernel
@[simp] theorem w_follow_below : (("follow" : Str) = "below") = False := by decide +kernel
@[simp] theorem w_follow_end : (("follow" : Str) = "end") = False := by decide +kernel
@[simp] theorem w_follow_label : (("follow" : Str) = "label") = False := by decide +kernel
@[simp] theorem w_follow_raw : (("follow" : Str) = "raw") = False := by decide +kernel
@[simp] theorem w_follow_shift : (("follow" : Str) = "shift") = False := by decide +kernel
@[simp] theorem w_follow_old : (("follow" : Str) = "old") = False := by decide +kernel
@[simp] theorem w_follow_joined : (("follow" : Str) = "joined") = False := by decide +kernel
@[simp] theorem w_follow_new : (("follow" : Str) = "new") = False := by decide +kernel
@[simp] theorem w_old_put : (("old" : Str) = "put") = False := by decide +kernel
@[simp] theorem w_old_out : (("old" : Str) = "out") = False := by decide +kernel
@[simp] theorem w_old_move : (("old" : Str) = "move") = False := by decide +kernel
@[simp] theorem w_old_copy : (("old" : Str) = "copy") = False := by decide +kernel
@[simp] theorem w_old_join : (("old" : Str) = "join") = False := by decide +kernel
@[simp] theorem w_old_number : (("old" : Str) = "number") = False := by decide +kernel
@[simp] theorem w_old_above : (("old" : Str) = "above") = False := by decide +kernel
@[simp] theorem w_old_below : (("old" : Str) = "below") = False := by decide +kernel
@[simp] theorem w_old_end : (("old" : Str) = "end") = False := by decide +kernel
@[simp] theorem w_old_label : (("old" : Str) = "label") = False := by decide +kernel
@[simp] theorem w_old_raw : (("old" : Str) = "raw") = False := by decide +kernel
@[simp] theorem w_old_shift : (("old" : Str) = "shift") = False := by decide +kernel
@[simp] theorem w_old_follow : (("old" : Str) = "follow") = False := by decide +kernel
@[simp] theorem w_old_joined : (("old" : Str) = "joined") = False := by decide +kernel
@[simp] theorem w_old_new : (("old" : Str) = "new") = False := by decide +kernel
@[simp] theorem w_joined_put : (("joined" : Str) = "put") = False := by decide +kernel
@[simp] theorem w_joined_out : (("joined" : Str) = "out") = False := by decide +kernel
@[simp] theorem w_joined_move : (("joined" : Str) = "move") = False := by decide +kernel
@[simp] theorem w_joined_copy : (("joined" : Str) = "copy") = False := by decide +kernel
@[simp] theorem w_joined_join : (("joined" : Str) = "join") = False := by decide +kernel
@[simp] theorem w_joined_number : (("joined" : Str) = "number") = False := by decide +kernel
@[simp] theorem w_joined_above : (("joined" : Str) = "above") = False := by decide +kernel
@[simp] theorem w_joined_below : (("joined" : Str) = "below") = False := by decide +kernel
@[simp] theorem w_joined_end : (("joined" : Str) = "end") = False := by decide +kernel
@[simp] theorem w_joined_label : (("joined" : Str) = "label") = False := by decide +kernel
@[simp] theorem w_joined_raw : (("joined" : Str) = "raw") = False := by decide +kernel
@[simp] theorem w_joined_shift : (("joined" : Str) = "shift") = False := by decide +kernel
@[simp] theorem w_joined_follow : (("joined" : Str) = "follow") = False := by decide +kernel
@[simp] theorem w_joined_old : (("joined" : Str) = "old") = False := by decide +kernel
@[simp] theorem w_joined_new : (("joined" : Str) = "new") = False := by decide +kernel
@[simp] theorem w_new_put : (("new" : Str) = "put") = False := by decide +kernel
@[simp] theorem w_new_out : (("new" : Str) = "out") = False := by decide +kernel
@[simp] theorem w_new_move : (("new" : Str) = "move") = False := by decide +kernel
@[simp] theorem w_new_copy : (("new" : Str) = "copy") = False := by decide +kernel
@[simp] theorem w_new_join : (("new" : Str) = "join") = False := by decide +kernel
@[simp] theorem w_new_number : (("new" : Str) = "number") = False := by decide +kernel
@[simp] theorem w_new_above : (("new" : Str) = "above") = False := by decide +kernel
@[simp] theorem w_new_below : (("new" : Str) = "below") = False := by decide +kernel
@[simp] theorem w_new_end : (("new" : Str) = "end") = False := by decide +kernel
@[simp] theorem w_new_label : (("new" : Str) = "label") = False := by decide +kernel
@[simp] theorem w_new_raw : (("new" : Str) = "raw") = False := by decide +kernel
@[simp] theorem w_new_shift : (("new" : Str) = "shift") = False := by decide +kernel
@[simp] theorem w_new_follow : (("new" : Str) = "follow") = False := by decide +kernel
@[simp] theorem w_new_old : (("new" : Str) = "old") = False := by decide +kernel
@[simp] theorem w_new_joined : (("new" : Str) = "joined") = False := by decide +kernel
end Pu

/-! text: QD -/
set_option Elab.async false
set_option linter.all false
set_option maxRecDepth 100000
namespace Pu
open PySem PySem.Spec L2 Sm Wk
def lp__law_number_0 : Sm.Env → M Out := (setV 3 fun ρ => (o2 mulA (vb ρ 3) (rt (.int 1009))))
theorem n__law_number : b__law_number = (seqS (setV 3 fun ρ => (rt (.int 1)))
  (seqS (fun ρ => bd (range1M (consM (o2 modI (c1 intD (consM (vb ρ 1) (rt []))) (rt (.int 24))) (rt []))) fun ds => forM (.one 4) lp__law_number_0 ds ρ)
  (seqS (setV 5 fun ρ => (o2 divI (o2 subI (vb ρ 0) (o2 powI (rt (.int 10)) (rt (.int 18)))) (vb ρ 3)))
  (seqS (fun ρ => bd (boolT (o2 gtI (vb ρ 5) (rt (.int 0)))) fun t => iteM t ((fun ρ => bd (o2 modI (c1 intD (consM (o2 modI (c1 intD (consM (vb ρ 5) (rt []))) (rt (.int 1009))) (rt []))) (vb ρ 2)) fun d => rt (.ret d)) ρ) (nextS ρ))
  (seqS (setV 6 fun ρ => (o2 modI (c1 intD (consM (vb ρ 0) (rt []))) (rt (.int 1000003))))
  (fun ρ => bd (o2 modI (c1 intD (consM (bd (consM (o2 mulA (o2 addA (vb ρ 6) (o2 mulA (rt (.int 977)) (vb ρ 1))) (o2 addA (o2 addA (vb ρ 6) (o2 mulA (rt (.int 31)) (vb ρ 1))) (rt (.int 5)))) (consM (o2 addA (o2 modI (c1 intD (consM (vb ρ 1) (rt []))) (rt (.int 9))) (rt (.int 1))) (consM (rt (.int 999983)) (rt [])))) fun ds => callM 3 m__law_draw ds) (rt []))) (vb ρ 2)) fun d => rt (.ret d))))))) := rfl
def ce__law_words_0 : Sm.Env → M D := fun ρ => (bd (consM (vl ρ 0) (consM (bd (lstM (consM (rt (.str "raw")) (consM (rt (.str "shift")) (consM (rt (.str "follow")) (consM (rt (.str "follow")) (rt [])))))) fun ds => rt (.lst ds)) (rt []))) fun ds => callM 2 m__law_pick ds)
theorem n__law_words : b__law_words = (seqS (setV 1 fun ρ => (bd (consM (vl ρ 0) (consM (rt (.int 4)) (rt []))) fun ds => callM 2 m__law_next ds))
  (seqS (fun ρ => bd (boolT (o2 eqD (vb ρ 1) (rt (.int 0)))) fun t => iteM t ((fun ρ => bd (o2 mulA (tupM (consM (bd (consM (vl ρ 0) (consM (bd (lstM (consM (rt (.str "raw")) (consM (rt (.str "shift")) (consM (rt (.str "follow")) (rt []))))) fun ds => rt (.lst ds)) (rt []))) fun ds => callM 2 m__law_pick ds) (rt []))) (rt (.int 4))) fun d => rt (.ret d)) ρ) (nextS ρ))
  (fun ρ => bd (c1 tupleD (consM (bd (bd (range1M (consM (rt (.int 4)) (rt []))) fun ds => noX (lcM (fun d => bindD (.one 2) d (wipeE ρ [2])) (fun ρ => (rt true)) ce__law_words_0 ds)) fun ds => rt (.lst ds)) (rt []))) fun d => rt (.ret d)))) := rfl
def ct__law_meant_0 : Sm.Env → M Bool := fun ρ => (boolT (o2 eqD (o2 ixD (o2 ixD (vb ρ 0) (vb ρ 3)) (rt (.int 0))) (vb ρ 5)))
def ce__law_meant_0 : Sm.Env → M D := fun ρ => (vl ρ 3)
theorem n__law_meant : b__law_meant = (seqS (asgT (.tup [4, 5]) fun ρ => (vl ρ 2))
  (seqS (fun ρ => bd (boolT (o2 eqD (vb ρ 4) (rt (.str "label")))) fun t => iteM t ((seqS (setN 6 fun ρ => (bd (range1M (consM (c1 lenD (consM (vb ρ 0) (rt []))) (rt []))) fun ds => noX (lcM (fun d => bindD (.one 3) d (wipeE ρ [3])) ct__law_meant_0 ce__law_meant_0 ds)))
  (fun ρ => bd (bd (boolT (o2 neD (vb ρ 6) (bd (lstM (rt [])) fun ds => rt (.lst ds)))) fun t => iteM t (o2 ixD (vb ρ 6) (rt (.int 0))) (rt .non)) fun d => rt (.ret d))) ρ) (nextS ρ))
  (seqS (setV 3 fun ρ => (vl ρ 5))
  (seqS (fun ρ => bd (boolT (o2 eqD (vb ρ 4) (rt (.str "above")))) fun t => iteM t ((setV 3 fun ρ => (o2 subI (vb ρ 1) (vb ρ 5))) ρ) (nextS ρ))
  (seqS (fun ρ => bd (boolT (o2 eqD (vb ρ 4) (rt (.str "below")))) fun t => iteM t ((setV 3 fun ρ => (o2 addA (vb ρ 1) (vb ρ 5))) ρ) (nextS ρ))
  (seqS (fun ρ => bd (boolT (o2 eqD (vb ρ 4) (rt (.str "end")))) fun t => iteM t ((setV 3 fun ρ => (o2 subI (o2 subI (c1 lenD (consM (vb ρ 0) (rt []))) (rt (.int 1))) (vb ρ 5))) ρ) (nextS ρ))
  (fun ρ => bd (bd (boolT (chainM leI ltI (rt (.int 0)) (vb ρ 3) (c1 lenD (consM (vb ρ 0) (rt []))))) fun t => iteM t (vl ρ 3) (rt .non)) fun d => rt (.ret d)))))))) := rfl
def ct__law_healed_0 : Sm.Env → M Bool := fun ρ => (boolT (bd (bd (consM (vl ρ 0) (consM (vl ρ 2) (consM (vl ρ 4) (rt [])))) fun ds => callM 3 m__law_meant ds) fun x => op1 (isN true) x))
def ce__law_healed_0 : Sm.Env → M D := fun ρ => (vl ρ 4)
def lp__law_healed_0 : Sm.Env → M Out := (seqS (setN 3 fun ρ => (bd (bd (o2 ixD (o2 ixD (vb ρ 0) (vb ρ 2)) (rt (.int 1))) seqM) fun ds => noX (lcM (fun d => bindD (.one 4) d (wipeE ρ [4])) ct__law_healed_0 ce__law_healed_0 ds)))
  (appS 1 fun ρ => (tupM (consM (o2 ixD (o2 ixD (vb ρ 0) (vb ρ 2)) (rt (.int 0))) (consM (c1 tupleD (consM (vb ρ 3) (rt []))) (rt []))))))
theorem n__law_healed : b__law_healed = (seqS (setN 1 fun ρ => (lstM (rt [])))
  (seqS (fun ρ => bd (range1M (consM (c1 lenD (consM (vb ρ 0) (rt []))) (rt []))) fun ds => forM (.one 2) lp__law_healed_0 ds ρ)
  (fun ρ => bd (c1 tupleD (consM (vb ρ 1) (rt []))) fun d => rt (.ret d)))) := rfl
def ce__law_rows_0 : Sm.Env → M D := fun ρ => (bd (consM (vl ρ 0) (consM (vl ρ 2) (consM (vl ρ 3) (rt [])))) fun ds => callM 3 m__law_pointer ds)
def lp__law_rows_0 : Sm.Env → M Out := (seqS (setV 5 fun ρ => (bd (consM (vl ρ 0) (consM (bd (lstM (consM (rt (.str "a")) (consM (rt (.str "b")) (consM (rt .non) (consM (rt .non) (consM (rt (.str "c")) (rt []))))))) fun ds => rt (.lst ds)) (rt []))) fun ds => callM 2 m__law_pick ds))
  (seqS (setN 6 fun ρ => (bd (range1M (consM (bd (consM (vl ρ 0) (consM (bd (lstM (consM (rt (.int 0)) (consM (rt (.int 1)) (consM (rt (.int 1)) (consM (rt (.int 2)) (rt [])))))) fun ds => rt (.lst ds)) (rt []))) fun ds => callM 2 m__law_pick ds) (rt []))) fun ds => noX (lcM (fun d => bindD (.one 7) d (wipeE ρ [7])) (fun ρ => (rt true)) ce__law_rows_0 ds)))
  (appS 4 fun ρ => (tupM (consM (vl ρ 5) (consM (c1 tupleD (consM (vb ρ 6) (rt []))) (rt [])))))))
theorem n__law_rows : b__law_rows = (seqS (parS [3, 4] 2 fun ρ => (bd (o2 addA (rt (.int 1)) (bd (consM (vl ρ 0) (consM (vl ρ 1) (rt []))) fun ds => callM 2 m__law_next ds)) fun d => bd (bd (lstM (rt [])) fun ds => bd (rt []) fun ss => rt (.own ds :: ss)) fun ss => rt (.val d :: ss)))
  (seqS (fun ρ => bd (range1M (consM (vl ρ 3) (rt []))) fun ds => forM (.one 2) lp__law_rows_0 ds ρ)
  (fun ρ => bd (c1 tupleD (consM (vb ρ 4) (rt []))) fun d => rt (.ret d)))) := rfl
def ce__law_spots_0 : Sm.Env → M D := fun ρ => (tupM (consM (vl ρ 2) (consM (vl ρ 3) (rt []))))
def lp__law_spots_0 : Sm.Env → M Out := (setN 1 fun ρ => (o2N addL (vb ρ 1) (bd (bd (range1M (consM (c1 lenD (consM (o2 ixD (o2 ixD (vb ρ 0) (vb ρ 2)) (rt (.int 1))) (rt []))) (rt []))) fun ds => noX (lcM (fun d => bindD (.one 3) d (wipeE ρ [3])) (fun ρ => (rt true)) ce__law_spots_0 ds)) fun ds => rt (.lst ds))))
theorem n__law_spots : b__law_spots = (seqS (setN 1 fun ρ => (lstM (rt [])))
  (seqS (fun ρ => bd (range1M (consM (c1 lenD (consM (vb ρ 0) (rt []))) (rt []))) fun ds => forM (.one 2) lp__law_spots_0 ds ρ)
  (fun ρ => (fun ρ => bd (vl ρ 1) fun d => rt (.ret d)) (frzS [1] ρ)))) := rfl
def ce__law_is_whole_0 : Sm.Env → M D := fun ρ => (bd (bd (consM (vl ρ 0) (consM (vl ρ 1) (rt []))) fun ds => callM 2 m__law_at ds) fun x => op1 (isN true) x)
theorem n__law_is_whole : b__law_is_whole = (fun ρ => bd (c1 allD (consM (bd (bd (bd (bd (consM (vl ρ 0) (rt [])) fun ds => callM 1 m__law_spots ds) seqM) fun ds => noX (lcM (fun d => bindD (.one 1) d (wipeE ρ [1])) (fun ρ => (rt true)) ce__law_is_whole_0 ds)) fun ds => rt (.lst ds)) (rt []))) fun d => rt (.ret d)) := rfl
def ce__law_sources_0 : Sm.Env → M D := fun ρ => (tupM (consM (rt (.str "joined")) (consM (vl ρ 4) (consM (rt (.bl false)) (rt [])))))
def ce__law_sources_1 : Sm.Env → M D := fun ρ => (tupM (consM (rt (.str "old")) (consM (vl ρ 4) (consM (rt (.bl false)) (rt [])))))
theorem n__law_sources : b__law_sources = (seqS (setN 2 fun ρ => (bd (range1M (consM (c1 lenD (consM (vb ρ 0) (rt []))) (rt []))) fun ds => noX (lcM (fun d => bindD (.one 4) d (wipeE ρ [4])) (fun ρ => (rt true)) ce__law_sources_1 ds)))
  (seqS (fun ρ => bd (boolT (o2 eqD (o2 ixD (vb ρ 1) (rt (.int 0))) (rt (.str "put")))) fun t => iteM t ((fun ρ => bd (bd (o2N addL (bd (o2N addL (bd (bd (vb ρ 2) fun x => bd (rt none) fun i => bd (bd (o2 ixD (vb ρ 1) (rt (.int 1))) asI) fun j => sliceL x i j) fun ds => rt (.lst ds)) (bd (lstM (consM (rt .non) (rt []))) fun ds => rt (.lst ds))) fun ds => rt (.lst ds)) (bd (bd (vb ρ 2) fun x => bd (bd (o2 ixD (vb ρ 1) (rt (.int 1))) asI) fun i => bd (rt none) fun j => sliceL x i j) fun ds => rt (.lst ds))) fun ds => rt (.lst ds)) fun d => rt (.ret d)) ρ) (nextS ρ))
  (seqS (fun ρ => bd (boolT (o2 eqD (o2 ixD (vb ρ 1) (rt (.int 0))) (rt (.str "copy")))) fun t => iteM t ((fun ρ => bd (bd (o2N addL (bd (o2N addL (bd (bd (vb ρ 2) fun x => bd (rt none) fun i => bd (bd (o2 ixD (vb ρ 1) (rt (.int 2))) asI) fun j => sliceL x i j) fun ds => rt (.lst ds)) (bd (lstM (consM (tupM (consM (rt (.str "old")) (consM (o2 ixD (vb ρ 1) (rt (.int 1))) (consM (rt (.bl true)) (rt []))))) (rt []))) fun ds => rt (.lst ds))) fun ds => rt (.lst ds)) (bd (bd (vb ρ 2) fun x => bd (bd (o2 ixD (vb ρ 1) (rt (.int 2))) asI) fun i => bd (rt none) fun j => sliceL x i j) fun ds => rt (.lst ds))) fun ds => rt (.lst ds)) fun d => rt (.ret d)) ρ) (nextS ρ))
  (seqS (fun ρ => bd (boolT (o2 eqD (o2 ixD (vb ρ 1) (rt (.int 0))) (rt (.str "join")))) fun t => iteM t ((fun ρ => bd (bd (o2N addL (vb ρ 2) (bd (bd (range1M (consM (c1 lenD (consM (o2 ixD (vb ρ 1) (rt (.int 1))) (rt []))) (rt []))) fun ds => noX (lcM (fun d => bindD (.one 4) d (wipeE ρ [4])) (fun ρ => (rt true)) ce__law_sources_0 ds)) fun ds => rt (.lst ds))) fun ds => rt (.lst ds)) fun d => rt (.ret d)) ρ) (nextS ρ))
  (seqS (setN 3 fun ρ => (o2N addL (bd (bd (vb ρ 2) fun x => bd (rt none) fun i => bd (bd (o2 ixD (vb ρ 1) (rt (.int 1))) asI) fun j => sliceL x i j) fun ds => rt (.lst ds)) (bd (bd (vb ρ 2) fun x => bd (bd (o2 addA (o2 ixD (vb ρ 1) (rt (.int 1))) (rt (.int 1))) asI) fun i => bd (rt none) fun j => sliceL x i j) fun ds => rt (.lst ds))))
  (seqS (fun ρ => bd (boolT (o2 eqD (o2 ixD (vb ρ 1) (rt (.int 0))) (rt (.str "out")))) fun t => iteM t ((fun ρ => (fun ρ => bd (vl ρ 3) fun d => rt (.ret d)) (frzS [3] ρ)) ρ) (nextS ρ))
  (fun ρ => bd (bd (o2N addL (bd (o2N addL (bd (bd (vb ρ 3) fun x => bd (rt none) fun i => bd (bd (o2 ixD (vb ρ 1) (rt (.int 2))) asI) fun j => sliceL x i j) fun ds => rt (.lst ds)) (bd (lstM (consM (o2 ixD (vb ρ 2) (o2 ixD (vb ρ 1) (rt (.int 1)))) (rt []))) fun ds => rt (.lst ds))) fun ds => rt (.lst ds)) (bd (bd (vb ρ 3) fun x => bd (bd (o2 ixD (vb ρ 1) (rt (.int 2))) asI) fun i => bd (rt none) fun j => sliceL x i j) fun ds => rt (.lst ds))) fun ds => rt (.lst ds)) fun d => rt (.ret d)))))))) := rfl
def lp__law_edited_0 : Sm.Env → M Out := (fun ρ => (fun ρ => bd (andT (boolT (bd (vb ρ 11) fun x => op1 (isN true) x)) (orT (boolT (bd (vb ρ 12) fun x => op1 (isN false) x)) (boolT (o2 neD (bd (consM (vl ρ 6) (consM (tupM (consM (vl ρ 3) (consM (vl ρ 10) (rt [])))) (rt []))) fun ds => callM 2 m__law_at ds) (vb ρ 12))))) fun t => iteM t ((appS 4 fun ρ => (tupM (consM (vl ρ 3) (consM (vl ρ 10) (rt []))))) ρ) (nextS ρ)) (frzS [6] ρ))
def lp__law_edited_1 : Sm.Env → M Out := (seqS (setV 11 fun ρ => (bd (consM (vl ρ 8) (consM (o2 ixD (vb ρ 13) (rt (.int 1))) (consM (vl ρ 9) (rt [])))) fun ds => callM 3 m__law_meant ds))
  (seqS (setV 15 fun ρ => (bd (boolT (bd (vb ρ 11) fun x => op1 (isN false) x)) fun t => iteM t (rt .non) (tupM (consM (o2 ixD (vb ρ 13) (rt (.int 0))) (consM (vl ρ 11) (consM (rt (.bl false)) (rt [])))))))
  (seqS (setV 12 fun ρ => (bd (andT (boolT (o2 (inD false) (vb ρ 15) (vb ρ 5))) (boolT (bd (vb ρ 15) fun x => op1 (isN true) x))) fun t => iteM t (idxM (vb ρ 5) (vl ρ 15)) (rt .non)))
  (seqS (appS 7 fun ρ => (tupM (consM (vl ρ 3) (consM (c1 lenD (consM (vb ρ 14) (rt []))) (consM (vl ρ 11) (consM (vl ρ 12) (rt [])))))))
  (seqS (parS [17, 18] 2 fun ρ => (bd (lstM (consM (rt (.str "number")) (consM (rt (.str "above")) (consM (rt (.str "below")) (consM (rt (.str "end")) (rt [])))))) fun ds => bd (bd (rt (.str "raw")) fun d => bd (rt []) fun ss => rt (.val d :: ss)) fun ss => rt (.own ds :: ss)))
  (seqS (fun ρ => bd (boolT (o2 neD (o2 ixD (vb ρ 9) (rt (.int 0))) (rt (.str "label")))) fun t => iteM t ((setV 18 fun ρ => (o2 ixD (vb ρ 0) (idxM (vb ρ 17) (o2 ixD (vb ρ 9) (rt (.int 0)))))) ρ) (nextS ρ))
  (seqS (setV 16 fun ρ => (rt .non))
  (seqS (fun ρ => bd (andT (boolT (bd (vb ρ 12) fun x => op1 (isN true) x)) (boolT (o2 neD (o2 ixD (vb ρ 9) (rt (.int 0))) (rt (.str "label"))))) fun t => iteM t ((setV 16 fun ρ => (bd (consM (o2 ixD (vb ρ 9) (rt (.int 0))) (consM (vl ρ 3) (consM (vl ρ 12) (consM (c1 lenD (consM (vb ρ 5) (rt []))) (rt []))))) fun ds => callM 4 m__law_same_kind ds)) ρ) (nextS ρ))
  (seqS (fun ρ => bd (orT (boolT (bd (vb ρ 16) fun x => op1 (isN false) x)) (orT (boolT (o2 eqD (vb ρ 18) (rt (.str "raw")))) (andT (boolT (o2 eqD (vb ρ 18) (rt (.str "shift")))) (boolT (o2 eqD (o2 ixD (vb ρ 2) (rt (.int 0))) (rt (.str "move"))))))) fun t => iteM t ((setV 16 fun ρ => (vl ρ 9)) ρ) (nextS ρ))
  (appS 14 fun ρ => (vl ρ 16)))))))))))
def lp__law_edited_2 : Sm.Env → M Out := (seqS (parS [13, 14] 2 fun ρ => (bd (o2 ixD (vb ρ 5) (vb ρ 3)) fun d => bd (bd (lstM (rt [])) fun ds => bd (rt []) fun ss => rt (.own ds :: ss)) fun ss => rt (.val d :: ss)))
  (seqS (setV 8 fun ρ => (bd (orT (boolT (bd (vb ρ 13) fun x => op1 (isN false) x)) (boolT (o2 eqD (o2 ixD (vb ρ 13) (rt (.int 0))) (rt (.str "old"))))) fun t => iteM t (vl ρ 1) (o2 ixD (vb ρ 2) (rt (.int 1)))))
  (seqS (fun ρ => bd (bd (bd (boolT (bd (vb ρ 13) fun x => op1 (isN false) x)) fun t => iteM t (tupM (rt [])) (o2 ixD (o2 ixD (vb ρ 8) (o2 ixD (vb ρ 13) (rt (.int 1)))) (rt (.int 1)))) seqM) fun ds => forM (.one 9) lp__law_edited_1 ds ρ)
  (appS 6 fun ρ => (tupM (consM (bd (boolT (bd (vb ρ 13) fun x => op1 (isN false) x)) fun t => iteM t (rt .non) (o2 ixD (o2 ixD (vb ρ 8) (o2 ixD (vb ρ 13) (rt (.int 1)))) (rt (.int 0)))) (consM (c1 tupleD (consM (vb ρ 14) (rt []))) (rt []))))))))
theorem n__law_edited : b__law_edited = (seqS (parS [5, 6, 7] 3 fun ρ => (bd (bd (consM (vl ρ 1) (consM (vl ρ 2) (rt []))) fun ds => callM 2 m__law_sources ds) fun d => bd (bd (lstM (rt [])) fun ds => bd (bd (lstM (rt [])) fun ds => bd (rt []) fun ss => rt (.own ds :: ss)) fun ss => rt (.own ds :: ss)) fun ss => rt (.val d :: ss)))
  (seqS (fun ρ => bd (range1M (consM (c1 lenD (consM (vb ρ 5) (rt []))) (rt []))) fun ds => forM (.one 3) lp__law_edited_2 ds ρ)
  (seqS (setN 4 fun ρ => (lstM (rt [])))
  (seqS (fun ρ => (fun ρ => bd (bd (vl ρ 7) seqM) fun ds => forM (.tup [3, 10, 11, 12]) lp__law_edited_0 ds ρ) (frzS [7] ρ))
  (fun ρ => (fun ρ => bd (tupM (consM (c1 tupleD (consM (vb ρ 6) (rt []))) (consM (vl ρ 4) (rt [])))) fun d => rt (.ret d)) (frzS [4] ρ)))))) := rfl
def ce_Way_init_0 : Sm.Env → M D := fun ρ => (bd (consM (vl ρ 5) (rt [])) fun ds => callM 1 m_is_word ds)
theorem n_Way_init : b_Way_init = (seqS (fun ρ => bd (notT (boolT (c1 allD (consM (bd (bd (bd (tupM (consM (vl ρ 1) (consM (vl ρ 2) (consM (vl ρ 3) (consM (vl ρ 4) (rt [])))))) seqM) fun ds => noX (lcM (fun d => bindD (.one 5) d (wipeE ρ [5])) (fun ρ => (rt true)) ce_Way_init_0 ds)) fun ds => rt (.lst ds)) (rt []))))) fun t => iteM t ((fun _ => stk) ρ) (nextS ρ))
  (fun ρ => bd (tupM (consM (vl ρ 1) (consM (vl ρ 2) (consM (vl ρ 3) (consM (vl ρ 4) (rt [])))))) fun v => selfM 1 0 ρ v)) := rfl
def ce__law_origins_0 : Sm.Env → M D := fun ρ => (tupM (consM (o2 ixD (vb ρ 16) (rt (.int 0))) (consM (bd (boolT (o2 eqD (vb ρ 15) (vb ρ 6))) fun t => iteM t (tupM (consM (tupM (consM (o2 ixD (vb ρ 8) (rt (.int 0))) (consM (vl ρ 5) (rt [])))) (rt []))) (tupM (rt []))) (rt []))))
def lp__law_origins_0 : Sm.Env → M Out := (seqS (setN 10 fun ρ => (bd (bd (vl ρ 1) fun d => bd (seqM d) fun ds => rt (enumL 0 ds)) fun ds => noX (lcM (fun d => bindD (.tup [15, 16]) d (wipeE ρ [15, 16])) (fun ρ => (rt true)) ce__law_origins_0 ds)))
  (seqS (parS [11, 12] 2 fun ρ => (bd (c1 tupleD (consM (bd (bd (vb ρ 10) fun x => bd (rt none) fun i => bd (bd (vb ρ 2) asI) fun j => sliceL x i j) fun ds => rt (.lst ds)) (rt []))) fun d => bd (bd (c1 tupleD (consM (bd (bd (vb ρ 10) fun x => bd (bd (vb ρ 2) asI) fun i => bd (rt none) fun j => sliceL x i j) fun ds => rt (.lst ds)) (rt []))) fun d => bd (rt []) fun ss => rt (.val d :: ss)) fun ss => rt (.val d :: ss)))
  (seqS (asgT (.tup [13, 14]) fun ρ => (bd (consM (vl ρ 0) (consM (vl ρ 11) (consM (tupM (consM (rt (.str "join")) (consM (vl ρ 12) (rt [])))) (rt [])))) fun ds => callM 3 m__law_edited ds))
  (fun ρ => bd (andT (boolT (bd (consM (vl ρ 11) (rt [])) fun ds => callM 1 m__law_is_whole ds)) (andT (boolT (bd (consM (vl ρ 12) (rt [])) fun ds => callM 1 m__law_is_whole ds)) (andT (boolT (o2 eqD (vb ρ 14) (bd (lstM (rt [])) fun ds => rt (.lst ds)))) (boolT (o2 eqD (o2 ixD (o2 ixD (vb ρ 13) (vb ρ 6)) (rt (.int 1))) (tupM (consM (vl ρ 8) (rt [])))))))) fun t => iteM t ((appS 9 fun ρ => (tupM (consM (o2 ixD (vb ρ 8) (rt (.int 0))) (consM (vl ρ 5) (rt []))))) ρ) (nextS ρ)))))
theorem n__law_origins : b__law_origins = (seqS (asgT (.tup [6, 7]) fun ρ => (vl ρ 3))
  (seqS (parS [8, 9] 2 fun ρ => (bd (o2 ixD (o2 ixD (o2 ixD (vb ρ 1) (vb ρ 6)) (rt (.int 1))) (vb ρ 7)) fun d => bd (bd (lstM (rt [])) fun ds => bd (rt []) fun ss => rt (.own ds :: ss)) fun ss => rt (.val d :: ss)))
  (seqS (setN 4 fun ρ => (lstM (consM (rt (.str "a")) (consM (rt (.str "b")) (consM (rt (.str "c")) (consM (rt (.str "d")) (rt [])))))))
  (seqS (fun ρ => bd (boolT (o2 neD (o2 ixD (vb ρ 8) (rt (.int 0))) (rt (.str "label")))) fun t => iteM t ((setN 4 fun ρ => (listRg2M (bd (boolT (o2 (inD false) (o2 ixD (vb ρ 8) (rt (.int 0))) (tupM (consM (rt (.str "above")) (consM (rt (.str "below")) (rt [])))))) fun t => iteM t (rt (.int 1)) (rt (.int 0))) (rt (.int 10)))) ρ) (nextS ρ))
  (seqS (fun ρ => (fun ρ => bd (bd (vl ρ 4) seqM) fun ds => forM (.one 5) lp__law_origins_0 ds ρ) (frzS [4] ρ))
  (fun ρ => (fun ρ => bd (vl ρ 9) fun d => rt (.ret d)) (frzS [9] ρ))))))) := rfl
def ce__law_halves_0 : Sm.Env → M D := fun ρ => (o2 ixD (vb ρ 8) (rt (.int 0)))
def ce__law_halves_1 : Sm.Env → M D := fun ρ => (o2 eqD (c1 lenD (consM (vb ρ 8) (rt []))) (rt (.int 1)))
def ce__law_halves_2 : Sm.Env → M D := fun ρ => (bd (consM (vl ρ 0) (consM (vl ρ 1) (consM (vl ρ 2) (consM (tupM (consM (vl ρ 4) (consM (vl ρ 7) (rt [])))) (rt []))))) fun ds => callM 4 m__law_origins ds)
def lp__law_halves_0 : Sm.Env → M Out := (seqS (setN 6 fun ρ => (bd (range1M (consM (c1 lenD (consM (o2 ixD (vb ρ 5) (rt (.int 1))) (rt []))) (rt []))) fun ds => noX (lcM (fun d => bindD (.one 7) d (wipeE ρ [7])) (fun ρ => (rt true)) ce__law_halves_2 ds)))
  (seqS (fun ρ => bd (notT (boolT (c1 allD (consM (bd (bd (bd (vb ρ 6) ownM) fun ds => noX (lcM (fun d => bindD (.one 8) d (wipeE ρ [8])) (fun ρ => (rt true)) ce__law_halves_1 ds)) fun ds => rt (.lst ds)) (rt []))))) fun t => iteM t ((fun ρ => bd (rt .non) fun d => rt (.ret d)) ρ) (nextS ρ))
  (appS 3 fun ρ => (tupM (consM (o2 ixD (vb ρ 5) (rt (.int 0))) (consM (c1 tupleD (consM (bd (bd (bd (vb ρ 6) ownM) fun ds => noX (lcM (fun d => bindD (.one 8) d (wipeE ρ [8])) (fun ρ => (rt true)) ce__law_halves_0 ds)) fun ds => rt (.lst ds)) (rt []))) (rt [])))))))
theorem n__law_halves : b__law_halves = (seqS (setN 3 fun ρ => (lstM (rt [])))
  (seqS (fun ρ => bd (bd (vl ρ 1) fun d => bd (seqM d) fun ds => rt (enumL 0 ds)) fun ds => forM (.tup [4, 5]) lp__law_halves_0 ds ρ)
  (fun ρ => bd (tupM (consM (c1 tupleD (consM (bd (bd (vb ρ 3) fun x => bd (rt none) fun i => bd (bd (vb ρ 2) asI) fun j => sliceL x i j) fun ds => rt (.lst ds)) (rt []))) (consM (c1 tupleD (consM (bd (bd (vb ρ 3) fun x => bd (bd (vb ρ 2) asI) fun i => bd (rt none) fun j => sliceL x i j) fun ds => rt (.lst ds)) (rt []))) (rt [])))) fun d => rt (.ret d)))) := rfl
def lp_first_with_0 : Sm.Env → M Out := (fun ρ => bd (boolT (o2 eqD (o2 ixD (vb ρ 3) (rt (.int 0))) (vb ρ 1))) fun t => iteM t ((fun ρ => bd (vl ρ 2) fun d => rt (.ret d)) ρ) (nextS ρ))
theorem n_first_with : b_first_with = (seqS (fun ρ => bd (bd (vl ρ 0) fun d => bd (seqM d) fun ds => rt (enumL 0 ds)) fun ds => forM (.tup [2, 3]) lp_first_with_0 ds ρ)
  (fun ρ => bd (rt .non) fun d => rt (.ret d))) := rfl
def ct_bars_of_0 : Sm.Env → M Bool := fun ρ => (boolT (bd (consM (vl ρ 0) (consM (vl ρ 1) (consM (vl ρ 2) (consM (vl ρ 3) (rt []))))) fun ds => callM 4 m_does_bar ds))
def ce_bars_of_0 : Sm.Env → M D := fun ρ => (vl ρ 3)
theorem n_bars_of : b_bars_of = (fun ρ => bd (bd (bd (bd (bd (consM (vl ρ 1) (rt [])) fun ds => callM 1 m_all_spots ds) seqM) fun ds => noX (lcM (fun d => bindD (.one 3) d (wipeE ρ [3])) ct_bars_of_0 ce_bars_of_0 ds)) fun ds => rt (.lst ds)) fun d => rt (.ret d)) := rfl
def ct_seams_0 : Sm.Env → M Bool := fun ρ => (boolT (o2 eqD (bd (consM (bd (vl ρ 0) fun d => bd (insM 1 d) fun d => noX (callM 1 m_Way_words [d])) (consM (bd (vl ρ 1) fun d => bd (insM 0 d) fun d => noX (callM 1 m_Steps_rows [d])) (consM (vl ρ 2) (rt [])))) fun ds => callM 3 m_bars_of ds) (bd (lstM (rt [])) fun ds => rt (.lst ds))))
def ce_seams_0 : Sm.Env → M D := fun ρ => (vl ρ 2)
theorem n_seams : b_seams = (seqS (fun ρ => bd (bd (consM (vl ρ 0) (rt [])) fun ds => callM 1 m_check_way ds) fun _ => rt (.nx ρ))
  (seqS (fun ρ => bd (bd (consM (vl ρ 1) (rt [])) fun ds => callM 1 m_check_steps ds) fun _ => rt (.nx ρ))
  (fun ρ => bd (bd (bd (range1M (consM (o2 addA (bd (vl ρ 1) fun d => bd (insM 0 d) fun d => bd (noX (callM 1 m_Steps_len [d])) lenI) (rt (.int 1))) (rt []))) fun ds => noX (lcM (fun d => bindD (.one 2) d (wipeE ρ [2])) ct_seams_0 ce_seams_0 ds)) fun ds => rt (.lst ds)) fun d => rt (.ret d)))) := rfl
def ce_is_step_0 : Sm.Env → M D := fun ρ => (bd (consM (vl ρ 1) (rt [])) fun ds => callM 1 m_is_pointer ds)
theorem n_is_step : b_is_step = (seqS (fun ρ => bd (orT (notT (boolT (c1 isiD (consM (vb ρ 0) (consM (rt (.ty "tuple")) (rt [])))))) (orT (boolT (o2 neD (c1 lenD (consM (vb ρ 0) (rt []))) (rt (.int 2)))) (notT (orT (boolT (bd (o2 ixD (vb ρ 0) (rt (.int 0))) fun x => op1 (isN false) x)) (boolT (bd (consM (o2 ixD (vb ρ 0) (rt (.int 0))) (rt [])) fun ds => callM 1 m_is_label ds)))))) fun t => iteM t ((fun ρ => bd (rt (.bl false)) fun d => rt (.ret d)) ρ) (nextS ρ))
  (seqS (fun ρ => bd (orT (notT (boolT (c1 isiD (consM (o2 ixD (vb ρ 0) (rt (.int 1))) (consM (rt (.ty "tuple")) (rt [])))))) (boolT (o2 gtI (c1 lenD (consM (o2 ixD (vb ρ 0) (rt (.int 1))) (rt []))) (rt (.int 2))))) fun t => iteM t ((fun ρ => bd (rt (.bl false)) fun d => rt (.ret d)) ρ) (nextS ρ))
  (fun ρ => bd (c1 allD (consM (bd (bd (bd (o2 ixD (vb ρ 0) (rt (.int 1))) seqM) fun ds => noX (lcM (fun d => bindD (.one 1) d (wipeE ρ [1])) (fun ρ => (rt true)) ce_is_step_0 ds)) fun ds => rt (.lst ds)) (rt []))) fun d => rt (.ret d)))) := rfl
def lp_Steps_init_0 : Sm.Env → M Out := (fun ρ => bd (notT (boolT (bd (consM (vl ρ 3) (rt [])) fun ds => callM 1 m_is_step ds))) fun t => iteM t ((fun _ => stk) ρ) (nextS ρ))
theorem n_Steps_init : b_Steps_init = (seqS (fun ρ => bd (orT (notT (boolT (c1 isiD (consM (vb ρ 1) (consM (rt (.ty "tuple")) (rt [])))))) (boolT (o2 gtI (c1 lenD (consM (vb ρ 1) (rt []))) (rt (.int 6))))) fun t => iteM t ((fun _ => stk) ρ) (nextS ρ))
  (seqS (fun ρ => bd (bd (vl ρ 1) fun d => bd (seqM d) fun ds => rt (enumL 0 ds)) fun ds => forM (.tup [2, 3]) lp_Steps_init_0 ds ρ)
  (fun ρ => bd (vl ρ 1) fun v => selfM 0 0 ρ v))) := rfl
def ce_are_whole_0 : Sm.Env → M D := fun ρ => (bd (bd (consM (vl ρ 0) (consM (vl ρ 1) (rt []))) fun ds => callM 2 m_meant_at ds) fun x => op1 (isN true) x)
theorem n_are_whole : b_are_whole = (fun ρ => bd (c1 allD (consM (bd (bd (bd (bd (consM (vl ρ 0) (rt [])) fun ds => callM 1 m_all_spots ds) seqM) fun ds => noX (lcM (fun d => bindD (.one 1) d (wipeE ρ [1])) (fun ρ => (rt true)) ce_are_whole_0 ds)) fun ds => rt (.lst ds)) (rt []))) fun d => rt (.ret d)) := rfl
def ce_half_of_0 : Sm.Env → M D := fun ρ => (bd (consM (vl ρ 7) (consM (vl ρ 0) (consM (vl ρ 1) (consM (vl ρ 4) (rt []))))) fun ds => callM 4 m_pointer_in_half ds)
def lp_half_of_0 : Sm.Env → M Out := (seqS (asgT (.tup [5, 6]) fun ρ => (o2 ixD (vb ρ 0) (vb ρ 4)))
  (appS 3 fun ρ => (tupM (consM (vl ρ 5) (consM (c1 tupleD (consM (bd (bd (bd (vl ρ 6) seqM) fun ds => noX (lcM (fun d => bindD (.one 7) d (wipeE ρ [7])) (fun ρ => (rt true)) ce_half_of_0 ds)) fun ds => rt (.lst ds)) (rt []))) (rt []))))))
theorem n_half_of : b_half_of = (seqS (setN 3 fun ρ => (lstM (rt [])))
  (seqS (fun ρ => bd (bd (vl ρ 2) seqM) fun ds => forM (.one 4) lp_half_of_0 ds ρ)
  (fun ρ => bd (bd (consM (c1 tupleD (consM (vb ρ 3) (rt []))) (rt [])) fun ds => callM 1 m_Steps_init ds) fun d => rt (.ret d)))) := rfl
def ct__law_blocks_0 : Sm.Env → M Bool := fun ρ => (boolT (bd (vb ρ 7) fun x => op1 (isN true) x))
def ce__law_blocks_0 : Sm.Env → M D := fun ρ => (vl ρ 7)
def ce__law_blocks_1 : Sm.Env → M D := fun ρ => (bd (consM (vl ρ 0) (consM (vl ρ 4) (consM (vl ρ 6) (rt [])))) fun ds => callM 3 m__law_halves ds)
def lp__law_blocks_0 : Sm.Env → M Out := (seqS (setN 5 fun ρ => (bd (range2M (consM (rt (.int 1)) (consM (o2 addA (c1 lenD (consM (vb ρ 4) (rt []))) (rt (.int 1))) (rt [])))) fun ds => noX (lcM (fun d => bindD (.one 6) d (wipeE ρ [6])) (fun ρ => (rt true)) ce__law_blocks_1 ds)))
  (seqS (setN 5 fun ρ => (bd (bd (vb ρ 5) ownM) fun ds => noX (lcM (fun d => bindD (.one 7) d (wipeE ρ [7])) ct__law_blocks_0 ce__law_blocks_0 ds)))
  (fun ρ => bd (boolT (o2 neD (vb ρ 5) (bd (lstM (rt [])) fun ds => rt (.lst ds)))) fun t => iteM t ((seqS (appS 3 fun ρ => (o2 ixD (o2 ixD (vb ρ 5) (rt (.int 0))) (rt (.int 0))))
  (setV 4 fun ρ => (o2 ixD (o2 ixD (vb ρ 5) (rt (.int 0))) (rt (.int 1))))) ρ) (nextS ρ))))
theorem n__law_blocks : b__law_blocks = (seqS (parS [3, 4] 2 fun ρ => (bd (lstM (rt [])) fun ds => bd (bd (vl ρ 1) fun d => bd (rt []) fun ss => rt (.val d :: ss)) fun ss => rt (.own ds :: ss)))
  (seqS (fun ρ => bd (range1M (consM (c1 lenD (consM (vb ρ 1) (rt []))) (rt []))) fun ds => forM (.one 2) lp__law_blocks_0 ds ρ)
  (fun ρ => (fun ρ => bd (vl ρ 3) fun d => rt (.ret d)) (frzS [3] ρ)))) := rfl
def ce_sources_0 : Sm.Env → M D := fun ρ => (tupM (consM (rt (.str "joined")) (consM (vl ρ 3) (consM (rt (.bl false)) (rt [])))))
def ce_sources_1 : Sm.Env → M D := fun ρ => (tupM (consM (rt (.str "old")) (consM (vl ρ 3) (consM (rt (.bl false)) (rt [])))))
theorem n_sources : b_sources = (seqS (setN 2 fun ρ => (bd (range1M (consM (c1 lenD (consM (vb ρ 0) (rt []))) (rt []))) fun ds => noX (lcM (fun d => bindD (.one 3) d (wipeE ρ [3])) (fun ρ => (rt true)) ce_sources_1 ds)))
  (seqS (fun ρ => bd (boolT (o2 eqD (o2 ixD (vb ρ 1) (rt (.int 0))) (rt (.str "put")))) fun t => iteM t ((insS 2 fun ρ => (consM (o2 ixD (vb ρ 1) (rt (.int 1))) (consM (rt .non) (rt [])))) ρ) ((fun ρ => bd (boolT (o2 eqD (o2 ixD (vb ρ 1) (rt (.int 0))) (rt (.str "out")))) fun t => iteM t ((fun ρ => bd (popM ρ 2 (o2 ixD (vb ρ 1) (rt (.int 1)))) fun r => rt (.nx r.2)) ρ) ((fun ρ => bd (boolT (o2 eqD (o2 ixD (vb ρ 1) (rt (.int 0))) (rt (.str "move")))) fun t => iteM t ((seqS (fun ρ => bd (popM ρ 2 (o2 ixD (vb ρ 1) (rt (.int 1)))) fun r => rt (.nx (r.2.set 4 (.val r.1))))
  (insS 2 fun ρ => (consM (o2 ixD (vb ρ 1) (rt (.int 2))) (consM (vl ρ 4) (rt []))))) ρ) ((fun ρ => bd (boolT (o2 eqD (o2 ixD (vb ρ 1) (rt (.int 0))) (rt (.str "copy")))) fun t => iteM t ((insS 2 fun ρ => (consM (o2 ixD (vb ρ 1) (rt (.int 2))) (consM (tupM (consM (rt (.str "old")) (consM (o2 ixD (vb ρ 1) (rt (.int 1))) (consM (rt (.bl true)) (rt []))))) (rt [])))) ρ) ((setN 2 fun ρ => (lstM (appM (bd (vb ρ 2) starM) (appM (bd (bd (bd (range1M (consM (c1 lenD (consM (o2 ixD (vb ρ 1) (rt (.int 1))) (rt []))) (rt []))) fun ds => noX (lcM (fun d => bindD (.one 3) d (wipeE ρ [3])) (fun ρ => (rt true)) ce_sources_0 ds)) fun ds => rt (.lst ds)) starM) (rt []))))) ρ)) ρ)) ρ)) ρ))
  (fun ρ => (fun ρ => bd (vl ρ 2) fun d => rt (.ret d)) (frzS [2] ρ)))) := rfl
def lp_edited_0 : Sm.Env → M Out := (seqS (setV 14 fun ρ => (bd (consM (vl ρ 3) (consM (vl ρ 8) (consM (o2 ixD (o2 ixD (o2 ixD (vb ρ 3) (vb ρ 8)) (rt (.int 1))) (vb ρ 11)) (rt [])))) fun ds => callM 3 m_meaning ds))
  (fun ρ => bd (andT (boolT (bd (vb ρ 12) fun x => op1 (isN true) x)) (orT (boolT (bd (vb ρ 13) fun x => op1 (isN false) x)) (boolT (o2 neD (vb ρ 14) (vb ρ 13))))) fun t => iteM t ((appS 4 fun ρ => (tupM (consM (vl ρ 8) (consM (vl ρ 11) (rt []))))) ρ) (nextS ρ)))
def lp_edited_1 : Sm.Env → M Out := (seqS (setV 12 fun ρ => (bd (consM (vl ρ 15) (consM (o2 ixD (vb ρ 9) (rt (.int 1))) (consM (vl ρ 16) (rt [])))) fun ds => callM 3 m_meaning ds))
  (seqS (setV 13 fun ρ => (bd (boolT (bd (vb ρ 12) fun x => op1 (isN false) x)) fun t => iteM t (rt .non) (bd (consM (vl ρ 5) (consM (o2 ixD (vb ρ 9) (rt (.int 0))) (consM (vl ρ 12) (rt [])))) fun ds => callM 3 m_standing ds)))
  (seqS (appS 7 fun ρ => (tupM (consM (vl ρ 8) (consM (c1 lenD (consM (vb ρ 10) (rt []))) (consM (vl ρ 12) (consM (vl ρ 13) (rt [])))))))
  (appS 10 fun ρ => (bd (consM (vl ρ 0) (consM (vl ρ 2) (consM (vl ρ 16) (consM (vl ρ 8) (consM (vl ρ 13) (consM (c1 lenD (consM (vb ρ 5) (rt []))) (rt []))))))) fun ds => callM 6 m_kept ds)))))
def lp_edited_2 : Sm.Env → M Out := (seqS (setN 10 fun ρ => (lstM (rt [])))
  (seqS (fun ρ => bd (boolT (bd (vb ρ 9) fun x => op1 (isN true) x)) fun t => iteM t ((seqS (setV 15 fun ρ => (bd (boolT (o2 eqD (o2 ixD (vb ρ 9) (rt (.int 0))) (rt (.str "old")))) fun t => iteM t (vl ρ 1) (o2 ixD (vb ρ 2) (rt (.int 1)))))
  (fun ρ => bd (bd (o2 ixD (o2 ixD (vb ρ 15) (o2 ixD (vb ρ 9) (rt (.int 1)))) (rt (.int 1))) seqM) fun ds => forM (.one 16) lp_edited_1 ds ρ)) ρ) (nextS ρ))
  (appS 6 fun ρ => (tupM (consM (bd (boolT (bd (vb ρ 9) fun x => op1 (isN false) x)) fun t => iteM t (rt .non) (bd (consM (vl ρ 1) (consM (vl ρ 2) (consM (vl ρ 9) (rt [])))) fun ds => callM 3 m_label_of ds)) (consM (c1 tupleD (consM (vb ρ 10) (rt []))) (rt [])))))))
theorem n_edited : b_edited = (seqS (parS [5, 6, 7] 3 fun ρ => (bd (bd (consM (vl ρ 1) (consM (vl ρ 2) (rt []))) fun ds => callM 2 m_sources ds) fun d => bd (bd (lstM (rt [])) fun ds => bd (bd (lstM (rt [])) fun ds => bd (rt []) fun ss => rt (.own ds :: ss)) fun ss => rt (.own ds :: ss)) fun ss => rt (.val d :: ss)))
  (seqS (fun ρ => bd (bd (vl ρ 5) fun d => bd (seqM d) fun ds => rt (enumL 0 ds)) fun ds => forM (.tup [8, 9]) lp_edited_2 ds ρ)
  (seqS (setV 3 fun ρ => (c1 tupleD (consM (vb ρ 6) (rt []))))
  (seqS (setN 4 fun ρ => (lstM (rt [])))
  (seqS (fun ρ => (fun ρ => bd (bd (vl ρ 7) seqM) fun ds => forM (.tup [8, 11, 12, 13]) lp_edited_0 ds ρ) (frzS [7] ρ))
  (fun ρ => (fun ρ => bd (tupM (consM (vl ρ 3) (consM (vl ρ 4) (rt [])))) fun d => rt (.ret d)) (frzS [4] ρ))))))) := rfl
def ce__law_gap_right_0 : Sm.Env → M D := fun ρ => (bd (consM (vl ρ 0) (consM (vl ρ 2) (consM (vl ρ 3) (consM (vl ρ 5) (rt []))))) fun ds => callM 4 m__law_does_bar ds)
def lp__law_gap_right_0 : Sm.Env → M Out := (seqS (setV 10 fun ρ => (bd (consM (vl ρ 0) (consM (vl ρ 2) (consM (vl ρ 3) (consM (vl ρ 6) (consM (vl ρ 9) (rt [])))))) fun ds => callM 5 m__law_are_halves ds))
  (fun ρ => bd (boolT (o2 neD (bd (bd (consM (bd (consM (vl ρ 6) (rt [])) fun ds => callM 1 m_Steps_init ds) (consM (bd (consM (vl ρ 9) (rt [])) fun ds => callM 1 m_Steps_init ds) (rt []))) fun ds => callM 2 m_Halves_init ds) fun d => bd (insM 2 d) fun d => bd (consM (vl ρ 1) (consM (vl ρ 7) (consM (vl ρ 3) (rt [])))) fun ds => callM 4 m_Halves_shows (d :: ds)) (vb ρ 10))) fun t => iteM t ((fun ρ => bd (rt (.bl false)) fun d => rt (.ret d)) ρ) (nextS ρ)))
def lp__law_gap_right_1 : Sm.Env → M Out := (fun ρ => bd (bd (bd (boolT (o2 neD (o2 ixD (vb ρ 8) (rt (.int 1))) (tupM (rt [])))) fun t => iteM t (bd (consM (o2 ixD (vb ρ 8) (rt (.int 1))) (rt [])) fun ds => callM 1 m__law_bent ds) (bd (lstM (consM (tupM (rt [])) (rt []))) fun ds => rt (.lst ds))) seqM) fun ds => forM (.one 9) lp__law_gap_right_0 ds ρ)
def lp__law_gap_right_2 : Sm.Env → M Out := (fun ρ => bd (boolT (o2 neD (bd (bd (consM (vl ρ 5) (rt [])) fun ds => callM 1 m_Barred_init ds) fun d => bd (insM 3 d) fun d => bd (consM (vl ρ 1) (consM (vl ρ 7) (consM (vl ρ 3) (rt [])))) fun ds => callM 4 m_Barred_shows (d :: ds)) (bd (consM (vl ρ 0) (consM (vl ρ 2) (consM (vl ρ 3) (consM (vl ρ 5) (rt []))))) fun ds => callM 4 m__law_does_bar ds))) fun t => iteM t ((fun ρ => bd (rt (.bl false)) fun d => rt (.ret d)) ρ) (nextS ρ))
theorem n__law_gap_right : b__law_gap_right = (seqS (parS [7, 8] 2 fun ρ => (bd (bd (consM (vl ρ 2) (rt [])) fun ds => callM 1 m_Steps_init ds) fun d => bd (bd (bd (consM (vl ρ 0) (consM (vl ρ 2) (consM (vl ρ 3) (rt [])))) fun ds => callM 3 m__law_halves ds) fun d => bd (rt []) fun ss => rt (.val d :: ss)) fun ss => rt (.val d :: ss)))
  (seqS (setV 4 fun ρ => (bd (consM (vl ρ 1) (consM (vl ρ 7) (consM (vl ρ 3) (rt [])))) fun ds => callM 3 m_take_apart ds))
  (seqS (fun ρ => bd (orT (boolT (o2 neD (c1 (isoD 4) (consM (vb ρ 4) (consM (rt (.cls 2)) (rt [])))) (bd (vb ρ 8) fun x => op1 (isN true) x))) (boolT (o2 (isB true) (bd (vl ρ 4) (fun d => bif isK 2 d then (fun d => bd (insM 2 d) fun d => bd (consM (vl ρ 1) (consM (vl ρ 7) (consM (vl ρ 3) (rt [])))) fun ds => callM 4 m_Halves_shows (d :: ds)) d else (fun d => bd (insM 3 d) fun d => bd (consM (vl ρ 1) (consM (vl ρ 7) (consM (vl ρ 3) (rt [])))) fun ds => callM 4 m_Barred_shows (d :: ds)) d)) (rt (.bl true))))) fun t => iteM t ((fun ρ => bd (rt (.bl false)) fun d => rt (.ret d)) ρ) (nextS ρ))
  (seqS (fun ρ => bd (bd (bd (o2N addL (bd (consM (vl ρ 2) (rt [])) fun ds => callM 1 m__law_spots ds) (bd (lstM (consM (tupM (consM (rt (.int 9)) (consM (rt (.int 0)) (rt [])))) (consM (tupM (consM (rt (.int 0)) (consM (rt (.int 9)) (rt [])))) (consM (tupM (consM (rt (.int 0)) (consM (rt (.int 2)) (rt [])))) (rt []))))) fun ds => rt (.lst ds))) fun ds => rt (.lst ds)) seqM) fun ds => forM (.one 5) lp__law_gap_right_2 ds ρ)
  (seqS (fun ρ => bd (boolT (bd (vb ρ 8) fun x => op1 (isN false) x)) fun t => iteM t ((fun ρ => bd (notV (bd (bd (consM (bd (consM (bd (vb ρ 2) fun x => bd (rt none) fun i => bd (bd (vb ρ 3) asI) fun j => sliceT x i j) (rt [])) fun ds => callM 1 m_Steps_init ds) (consM (bd (consM (bd (vb ρ 2) fun x => bd (bd (vb ρ 3) asI) fun i => bd (rt none) fun j => sliceT x i j) (rt [])) fun ds => callM 1 m_Steps_init ds) (rt []))) fun ds => callM 2 m_Halves_init ds) fun d => bd (insM 2 d) fun d => bd (consM (vl ρ 1) (consM (vl ρ 7) (consM (vl ρ 3) (rt [])))) fun ds => callM 4 m_Halves_shows (d :: ds))) fun d => rt (.ret d)) ρ) (nextS ρ))
  (seqS (fun ρ => bd (orT (boolT (o2 neD (bd (bd (vl ρ 4) (slotM 2 0)) fun d => bd (insM 0 d) fun d => noX (callM 1 m_Steps_rows [d])) (o2 ixD (vb ρ 8) (rt (.int 0))))) (boolT (o2 neD (bd (bd (vl ρ 4) (slotM 2 1)) fun d => bd (insM 0 d) fun d => noX (callM 1 m_Steps_rows [d])) (o2 ixD (vb ρ 8) (rt (.int 1)))))) fun t => iteM t ((fun ρ => bd (rt (.bl false)) fun d => rt (.ret d)) ρ) (nextS ρ))
  (seqS (fun ρ => bd (bd (bd (boolT (o2 neD (o2 ixD (vb ρ 8) (rt (.int 0))) (tupM (rt [])))) fun t => iteM t (bd (consM (o2 ixD (vb ρ 8) (rt (.int 0))) (rt [])) fun ds => callM 1 m__law_bent ds) (bd (lstM (consM (tupM (rt [])) (rt []))) fun ds => rt (.lst ds))) seqM) fun ds => forM (.one 6) lp__law_gap_right_1 ds ρ)
  (fun ρ => bd (notV (c1 anyD (consM (bd (bd (bd (bd (consM (vl ρ 2) (rt [])) fun ds => callM 1 m__law_spots ds) seqM) fun ds => noX (lcM (fun d => bindD (.one 5) d (wipeE ρ [5])) (fun ρ => (rt true)) ce__law_gap_right_0 ds)) fun ds => rt (.lst ds)) (rt [])))) fun d => rt (.ret d))))))))) := rfl
def ct_law_0 : Sm.Env → M Bool := fun ρ => (boolT (bd (bd (consM (vl ρ 5) (consM (vl ρ 3) (consM (vl ρ 6) (rt [])))) fun ds => callM 3 m__law_halves ds) fun x => op1 (isN true) x))
def ce_law_0 : Sm.Env → M D := fun ρ => (vl ρ 6)
def lp_law_0 : Sm.Env → M Out := (fun ρ => bd (notT (boolT (bd (consM (vl ρ 5) (consM (vl ρ 8) (consM (vl ρ 7) (consM (vl ρ 6) (rt []))))) fun ds => callM 4 m__law_gap_right ds))) fun t => iteM t ((fun ρ => bd (rt (.bl false)) fun d => rt (.ret d)) ρ) (nextS ρ))
def ce_law_1 : Sm.Env → M D := fun ρ => (bd (vl ρ 9) fun d => bd (insM 0 d) fun d => noX (callM 1 m_Steps_rows [d]))
def ct_law_1 : Sm.Env → M Bool := fun ρ => (boolT (bd (bd (consM (vl ρ 5) (consM (vl ρ 7) (consM (vl ρ 6) (rt [])))) fun ds => callM 3 m__law_halves ds) fun x => op1 (isN true) x))
def ce_law_2 : Sm.Env → M D := fun ρ => (vl ρ 6)
def lp_law_1 : Sm.Env → M Out := (seqS (setV 5 fun ρ => (bd (consM (vl ρ 1) (rt [])) fun ds => callM 1 m__law_words ds))
  (seqS (asgT (.tup [7, 8]) fun ρ => (tupM (consM (bd (consM (vl ρ 1) (consM (vl ρ 5) (rt []))) fun ds => callM 2 m__law_list ds) (consM (bd (consM (vl ρ 5) (rt [])) fun ds => callM 1 m__law_way ds) (rt [])))))
  (seqS (setN 4 fun ρ => (bd (range1M (consM (o2 addA (c1 lenD (consM (vb ρ 7) (rt []))) (rt (.int 1))) (rt []))) fun ds => noX (lcM (fun d => bindD (.one 6) d (wipeE ρ [6])) ct_law_1 ce_law_2 ds)))
  (seqS (fun ρ => bd (boolT (o2 neD (bd (consM (vl ρ 8) (consM (bd (consM (vl ρ 7) (rt [])) fun ds => callM 1 m_Steps_init ds) (rt []))) fun ds => callM 2 m_seams ds) (vb ρ 4))) fun t => iteM t ((fun ρ => bd (rt (.bl false)) fun d => rt (.ret d)) ρ) (nextS ρ))
  (seqS (fun ρ => bd (boolT (o2 neD (bd (bd (bd (bd (consM (vl ρ 8) (consM (bd (consM (vl ρ 7) (rt [])) fun ds => callM 1 m_Steps_init ds) (rt []))) fun ds => callM 2 m_blocks ds) seqM) fun ds => noX (lcM (fun d => bindD (.one 9) d (wipeE ρ [9])) (fun ρ => (rt true)) ce_law_1 ds)) fun ds => rt (.lst ds)) (bd (consM (vl ρ 5) (consM (vl ρ 7) (rt []))) fun ds => callM 2 m__law_blocks ds))) fun t => iteM t ((fun ρ => bd (rt (.bl false)) fun d => rt (.ret d)) ρ) (nextS ρ))
  (fun ρ => bd (range1M (consM (o2 addA (c1 lenD (consM (vb ρ 7) (rt []))) (rt (.int 1))) (rt []))) fun ds => forM (.one 6) lp_law_0 ds ρ))))))
theorem n_law : b_law = (seqS (fun ρ => bd (lstM (consM (bd (bd (vb ρ 0) fun x => bd (rt none) fun i => bd (bd (rt (.int 63)) asI) fun j => sliceL x i j) fun ds => rt (.lst ds)) (consM (rt (.int 0)) (consM (rt (.int 0)) (rt []))))) fun ds => fun S => .ok (.nx (ρ.set 1 (.val (.ref S.length)))) (S ++ [.lst ds]))
  (seqS (fun ρ => bd (range1M (consM (rt (.int 2)) (rt []))) fun ds => forM (.one 2) lp_law_1 ds ρ)
  (seqS (setV 3 fun ρ => (bd (consM (vl ρ 1) (consM (rt (.int 4)) (rt []))) fun ds => callM 2 m__law_rows ds))
  (seqS (setN 4 fun ρ => (bd (range1M (consM (o2 addA (c1 lenD (consM (vb ρ 3) (rt []))) (rt (.int 1))) (rt []))) fun ds => noX (lcM (fun d => bindD (.one 6) d (wipeE ρ [6])) ct_law_0 ce_law_0 ds)))
  (fun ρ => bd (andV (o2 eqD (bd (consM (vl ρ 8) (consM (bd (consM (vl ρ 3) (rt [])) fun ds => callM 1 m_Steps_init ds) (rt []))) fun ds => callM 2 m_seams ds) (vb ρ 4)) (andV (o2 eqD (bd (consM (vl ρ 8) (consM (bd (consM (tupM (rt [])) (rt [])) fun ds => callM 1 m_Steps_init ds) (rt []))) fun ds => callM 2 m_seams ds) (bd (lstM (consM (rt (.int 0)) (rt []))) fun ds => rt (.lst ds))) (o2 eqD (bd (consM (vl ρ 8) (consM (bd (consM (tupM (rt [])) (rt [])) fun ds => callM 1 m_Steps_init ds) (rt []))) fun ds => callM 2 m_blocks ds) (bd (lstM (rt [])) fun ds => rt (.lst ds))))) fun d => rt (.ret d)))))) := rfl
end Pu

/-! text: Q4 -/
set_option Elab.async false
set_option linter.all false
set_option maxRecDepth 100000
set_option maxHeartbeats 1000000
namespace Pu
open PySem PySem.Spec L2 Sm Wk
/-! ### the plain things -/
inductive Kd where
  | num
  | abv
  | blw
  | fin
  deriving DecidableEq
def Kd.s : Kd → Str
  | .num => "number"
  | .abv => "above"
  | .blw => "below"
  | .fin => "end"
inductive Pt where
  | lab (s : Str)
  | at (k : Kd) (n : Int)
  deriving DecidableEq
def Pt.d : Pt → D
  | .lab s => .tup [.str "label", .str s]
  | .at k n => .tup [.str k.s, .int n]
def letter (s : Str) : Prop := s = "a" ∨ s = "b" ∨ s = "c" ∨ s = "d"
def lowK : Kd → Int
  | .abv => 1
  | .blw => 1
  | _ => 0
def Pt.ok : Pt → Prop
  | .lab s => letter s
  | .at k n => lowK k ≤ n ∧ n ≤ 9
structure Row where
  lab : Option Str
  pts : List Pt
  deriving DecidableEq
def labD : Option Str → D
  | none => .non
  | some s => .str s
def Row.d (r : Row) : D := .tup [labD r.lab, .tup (r.pts.map Pt.d)]
def Row.ok (r : Row) : Prop := (r.lab = none ∨ ∃ s, r.lab = some s ∧ letter s) ∧ r.pts.length ≤ 2 ∧ ∀ p ∈ r.pts, p.ok
def rowsD (rs : List Row) : D := .tup (rs.map Row.d)
def Good (rs : List Row) : Prop := rs.length ≤ 6 ∧ ∀ r ∈ rs, r.ok
def lettersD : List D := [.str "a", .str "b", .str "a", .str "b", .str "c", .str "d"]
theorem letters_list (S : Sto) : (o2N addL (bd (c1N listA (consM (rt (.str "abab")) (rt []))) fun ds => rt (.lst ds)) (bd (c1N listA (consM (rt (.str "cd")) (rt []))) fun ds => rt (.lst ds))) S = .ok lettersD S := by
  kernel_rfl
theorem pointer (n at_ many : Nat) (hm : at_ < many) (h4 : many ≤ 4) (S : Sto) (hd : Draw n S) : ∃ (p : Pt) (S' : Sto), m__law_pointer [.ref n, .int (at_ : Int), .int (many : Int)] S = .ok p.d S' ∧ p.ok ∧ Draw n S' ∧ S'.length = S.length := by
  obtain ⟨r, S1, h1, r1, r2, d1, l1⟩ := next n 6 (by decide) S hd
  unfold m__law_pointer b__law_pointer
  by_cases hl : r = 0 ∨ r = 5
  · obtain ⟨y, S2, h2, hy, d2, l2⟩ := pick n lettersD (by simp [lettersD]) S1 d1
    have : ∃ s, y = .str s ∧ letter s := by
      simp [lettersD] at hy
      rcases hy with rfl | rfl | rfl | rfl | rfl | rfl
      · exact ⟨_, rfl, .inl rfl⟩
      · exact ⟨_, rfl, .inr (.inl rfl)⟩
      · exact ⟨_, rfl, .inl rfl⟩
      · exact ⟨_, rfl, .inr (.inl rfl)⟩
      · exact ⟨_, rfl, .inr (.inr (.inl rfl))⟩
      · exact ⟨_, rfl, .inr (.inr (.inr rfl))⟩
    obtain ⟨s, rfl, hs⟩ := this
    refine ⟨.lab s, S2, ?_, hs, d2, l2.trans l1⟩
    have ll := letters_list
    rcases hl with rfl | rfl
    · simp [-e_o2N, h1, ll, h2, Pt.d]
    · simp [-e_o2N, h1, ll, h2, Pt.d]
  · obtain ⟨t, S2, h2, t1, t2, d2, l2⟩ := next n many (by omega) S1 d1
    have e0 : ¬ r = 0 := fun h => hl (.inl h)
    have e5 : ¬ r = 5 := fun h => hl (.inr h)
    by_cases c1 : r = 1
    · subst c1
      obtain ⟨u, S3, h3, u1, u2, d3, l3⟩ := next n 6 (by decide) S2 d2
      by_cases hu : 0 < u
      · exact ⟨.at .num t, S3, by simp [h1, h2, h3, hu, Pt.d, Kd.s], ⟨by simp only [lowK]; omega, by omega⟩, d3, by omega⟩
      · obtain ⟨v, S4, h4, v1, v2, d4, l4⟩ := next n 10 (by decide) S3 d3
        exact ⟨.at .num v, S4, by simp [h1, h2, h3, hu, h4, Pt.d, Kd.s], ⟨by simp only [lowK]; omega, by omega⟩, d4, by omega⟩
    · by_cases c2 : r = 2 ∧ t < at_
      · obtain ⟨rfl, hlt⟩ := c2
        exact ⟨.at .abv (at_ - t), S2, by simp [h1, h2, hlt, Pt.d, Kd.s], ⟨by simp only [lowK]; omega, by omega⟩, d2, by omega⟩
      · by_cases c3 : r = 3 ∧ (at_ : Int) < t
        · obtain ⟨rfl, hlt⟩ := c3
          exact ⟨.at .blw (t - at_), S2, by simp [h1, h2, hlt, Pt.d, Kd.s], ⟨by simp only [lowK]; omega, by omega⟩, d2, by omega⟩
        · refine ⟨.at .fin (many - 1 - t), S2, ?_, ⟨by simp only [lowK]; omega, by omega⟩, d2, by omega⟩
          by_cases z2 : r = 2
          · have : ¬ t < at_ := fun h => c2 ⟨z2, h⟩
            subst z2
            simp [h1, h2, this, Pt.d, Kd.s]
          · by_cases z3 : r = 3
            · have : ¬ (at_ : Int) < t := fun h => c3 ⟨z3, h⟩
              subst z3
              simp [h1, h2, this, Pt.d, Kd.s]
            · simp [h1, h2, e0, e5, c1, z2, z3, Pt.d, Kd.s]
end Pu

/-! text: Q5 -/
set_option Elab.async false
set_option linter.all false
set_option maxRecDepth 100000
set_option maxHeartbeats 1000000
namespace Sm
open PySem PySem.Spec L2
theorem e_mulT4 (a : D) (S : Sto) : mulA (.tup [a]) (.int 4) S = some (.tup [a, a, a, a]) := rfl
end Sm
namespace Pu
open PySem PySem.Spec L2 Sm Wk
def okW (s : Str) : Prop := s = "raw" ∨ s = "shift" ∨ s = "follow"
structure Ws where
  n : Str
  a : Str
  b : Str
  e : Str
def Ws.d (w : Ws) : D := .tup [.str w.n, .str w.a, .str w.b, .str w.e]
def Ws.of (w : Ws) : Kd → Str
  | .num => w.n
  | .abv => w.a
  | .blw => w.b
  | .fin => w.e
def Ws.ok (w : Ws) : Prop := okW w.n ∧ okW w.a ∧ okW w.b ∧ okW w.e
theorem words (n : Nat) (S : Sto) (hd : Draw n S) : ∃ (w : Ws) (S' : Sto), m__law_words [.ref n] S = .ok w.d S' ∧ w.ok ∧ Draw n S' ∧ S'.length = S.length := by
  unfold m__law_words b__law_words
  obtain ⟨r, S1, h1, r1, r2, d1, l1⟩ := next n 4 (by decide) S hd
  by_cases hr0 : r = 0
  · subst hr0
    obtain ⟨x, S2, h2, hx, d2, l2⟩ := pick n [.str "raw", .str "shift", .str "follow"] (by simp) S1 d1
    have : ∃ s, x = .str s ∧ okW s := by
      simp at hx
      rcases hx with rfl | rfl | rfl
      · exact ⟨_, rfl, .inl rfl⟩
      · exact ⟨_, rfl, .inr (.inl rfl)⟩
      · exact ⟨_, rfl, .inr (.inr rfl)⟩
    obtain ⟨s, rfl, hs⟩ := this
    refine ⟨⟨s, s, s, s⟩, S2, ?_, ⟨hs, hs, hs, hs⟩, d2, l2.trans l1⟩
    simp [h1, h2, e_mulT4, Ws.d]
  · obtain ⟨ys, S2, h2, _, h3, h4, h5⟩ := lc_inv (bnd := fun d => bindD (.one 2) d (wipeE [.val (.ref n), .val (.int r), .no] [2])) (e := fun ρ => (bd (consM (vl ρ 0) (consM (bd (lstM (consM (rt (.str "raw")) (consM (rt (.str "shift")) (consM (rt (.str "follow")) (consM (rt (.str "follow")) (rt [])))))) fun ds => rt (.lst ds)) (rt []))) fun ds => callM 2 m__law_pick ds))
      (P := fun y => ∃ w : Str, y = .str w ∧ okW w) (I := fun S' => Draw n S' ∧ S'.length = S1.length) (rng 0 4) S1 ⟨d1, rfl⟩ fun d _ => by
        refine ⟨_, rfl, fun S3 ⟨hd3, hl3⟩ => ?_⟩
        obtain ⟨x, S4, h4, hx, d4, l4⟩ := pick n [.str "raw", .str "shift", .str "follow", .str "follow"] (by simp) S3 hd3
        refine ⟨x, S4, ?_, ?_, d4, l4.trans hl3⟩
        · simp [wipeE, h4]
        · simp at hx
          rcases hx with rfl | rfl | rfl
          · exact ⟨_, rfl, .inl rfl⟩
          · exact ⟨_, rfl, .inr (.inl rfl)⟩
          · exact ⟨_, rfl, .inr (.inr rfl)⟩
    obtain ⟨ws, e, hw⟩ := list_of h4
    rw [e, List.length_map, rng_len] at h3
    obtain ⟨a, b, c, d, rfl⟩ : ∃ a b c d, ws = [a, b, c, d] := by
      match ws, h3 with
      | [a, b, c, d], _ => exact ⟨a, b, c, d, rfl⟩
    refine ⟨⟨a, b, c, d⟩, S2, ?_, ⟨hw a (by simp), hw b (by simp), hw c (by simp), hw d (by simp)⟩, h5.1, h5.2.trans l1⟩
    have hr : ∀ S, range1M (consM (rt (.int 4)) (rt [])) S = .ok (rng 0 4) S := fun S => e_range1 (n := 4) rfl (by decide)
    rw [e] at h2
    simp [h1, hr0, hr, -e_noX, h2, Ws.d]

theorem pick_row_lab (n : Nat) (S : Sto) (hd : Draw n S) : ∃ (l : Option Str) (S' : Sto), m__law_pick [.ref n, .lst [.str "a", .str "b", .non, .non, .str "c"]] S = .ok (labD l) S' ∧ (l = none ∨ ∃ s, l = some s ∧ letter s) ∧ Draw n S' ∧ S'.length = S.length := by
  obtain ⟨x, S2, h1, hx, d2, l2⟩ := pick n [.str "a", .str "b", .non, .non, .str "c"] (by simp) S hd
  simp at hx
  rcases hx with rfl | rfl | rfl | rfl
  · exact ⟨some ("a" : Str), S2, h1, .inr ⟨_, rfl, .inl rfl⟩, d2, l2⟩
  · exact ⟨some ("b" : Str), S2, h1, .inr ⟨_, rfl, .inr (.inl rfl)⟩, d2, l2⟩
  · exact ⟨none, S2, h1, .inl rfl, d2, l2⟩
  · exact ⟨some ("c" : Str), S2, h1, .inr ⟨_, rfl, .inr (.inr (.inl rfl))⟩, d2, l2⟩
theorem pick_many (n : Nat) (S : Sto) (hd : Draw n S) : ∃ (k : Nat) (S' : Sto), m__law_pick [.ref n, .lst [.int 0, .int 1, .int 1, .int 2]] S = .ok (.int (k : Int)) S' ∧ k ≤ 2 ∧ Draw n S' ∧ S'.length = S.length := by
  obtain ⟨x, S2, h1, hx, d2, l2⟩ := pick n [.int 0, .int 1, .int 1, .int 2] (by simp) S hd
  simp at hx
  rcases hx with rfl | rfl | rfl
  · exact ⟨0, S2, h1, by omega, d2, l2⟩
  · exact ⟨1, S2, h1, by omega, d2, l2⟩
  · exact ⟨2, S2, h1, by omega, d2, l2⟩
theorem rows (n b : Nat) (hb : 0 < b) (hb4 : b ≤ 4) (S : Sto) (hd : Draw n S) : ∃ (rs : List Row) (S' : Sto), m__law_rows [.ref n, .int (b : Int)] S = .ok (rowsD rs) S' ∧ 1 ≤ rs.length ∧ rs.length ≤ b ∧ (∀ r ∈ rs, r.ok) ∧ Draw n S' ∧ S'.length = S.length := by
  obtain ⟨z, S1, h1, z1, z2, d1, l1⟩ := next n b (by omega) S hd
  obtain ⟨m0, rfl⟩ : ∃ m : Nat, z = (m : Int) := ⟨z.toNat, by omega⟩
  obtain ⟨m, hm⟩ : ∃ m : Nat, m = 1 + m0 := ⟨_, rfl⟩
  have hmb : m ≤ b := by omega
  have hmI : (1 : Int) + (m0 : Int) = (m : Int) := by omega
  unfold m__law_rows
  rw [n__law_rows]
  have hr : ∀ ρ : Sm.Env, ∀ S, ρ[3]? = some (.val (.int (m : Int))) → range1M (consM (vl ρ 3) (rt [])) S = .ok (rng 0 m) S := fun ρ S e => e_range1 (n := m) (by simp [e]) (by omega)
  obtain ⟨ρ', S2, h2, rs, x2, x5, x6, x7, e2, e3, e4, d2, l2⟩ := for_inv (t := .one 2) (b := lp__law_rows_0)
    (I := fun k ρ S' => ∃ (rs : List Row) (x2 x5 x6 x7 : Slot), ρ = [.val (.ref n), .val (.int (b : Int)), x2, .val (.int (m : Int)), .own (rs.map Row.d), x5, x6, x7] ∧ rs.length = k ∧ (∀ r ∈ rs, r.ok) ∧ Draw n S' ∧ S'.length = S.length) (rng 0 m) 0 [.val (.ref n), .val (.int (b : Int)), .no, .val (.int (m : Int)), .own [], .no, .no, .no] S1 ⟨[], .no, .no, .no, .no, rfl, rfl, fun _ h => by (cases h), d1, l1⟩ fun i d ρ S3 hd3 ⟨rs, x2, x5, x6, x7, e, hl, ok, d3, l3⟩ => by
      subst e
      have hlt : i < m := by
        have := (List.getElem?_eq_some_iff.mp hd3).1
        rwa [rng_len] at this
      have hdi : d = .int (i : Int) := by
        have := rng_get hd3
        rw [this, Int.zero_add]
      subst hdi
      obtain ⟨l, S8, h8, l8, d8, ll8⟩ := pick_row_lab n S3 d3
      obtain ⟨k, S4, h4, k4, d4, l4⟩ := pick_many n S8 d8
      obtain ⟨ys, S5, h5, _, y5, p5, d5, l5⟩ := lc_inv (bnd := fun d' => bindD (.one 7) d' (wipeE [.val (.ref n), .val (.int (b : Int)), .val (.int (i : Int)), .val (.int (m : Int)), .own (rs.map Row.d), .val (labD l), x6, x7] [7])) (e := ce__law_rows_0)
        (P := fun y => ∃ p : Pt, y = p.d ∧ p.ok) (I := fun S' => Draw n S' ∧ S'.length = S.length) (rng 0 k) S4 ⟨d4, by omega⟩ fun d' _ => by
          refine ⟨_, rfl, fun S6 ⟨hd6, hl6⟩ => ?_⟩
          obtain ⟨p, S7, h7, p7, d7, l7⟩ := pointer n i m hlt (by omega) S6 hd6
          exact ⟨p.d, S7, by unfold ce__law_rows_0; simp [wipeE, h7], ⟨p, rfl, p7⟩, d7, l7.trans hl6⟩
      obtain ⟨ps, ep, hp⟩ := list_of p5
      refine ⟨[.val (.ref n), .val (.int (b : Int)), .val (.int (i : Int)), .val (.int (m : Int)), .own (rs.map Row.d), x5, x6, x7], [.val (.ref n), .val (.int (b : Int)), .val (.int (i : Int)), .val (.int (m : Int)), .own ((rs ++ [Row.mk l ps]).map Row.d), .val (labD l), .own (ps.map Pt.d), x7], S5, rfl, .inl ?_, rs ++ [Row.mk l ps], .val (.int (i : Int)), .val (labD l), .own (ps.map Pt.d), x7, rfl, by simp [hl], ?_, d5, l5⟩
      · have hk2 : ∀ ρ : Sm.Env, ρ[0]? = some (.val (.ref n)) → range1M (consM (bd (consM (vl ρ 0) (consM (bd (lstM (consM (rt (.int 0)) (consM (rt (.int 1)) (consM (rt (.int 1)) (consM (rt (.int 2)) (rt [])))))) fun ds => rt (.lst ds)) (rt []))) fun ds => callM 2 m__law_pick ds) (rt [])) S8 = .ok (rng 0 k) S4 := fun ρ hρ => e_range1 (n := k) (by simp [hρ, h4]) (by omega)
        have c1 : rs.length < 100000 := by omega
        unfold lp__law_rows_0
        rw [ep] at h5
        simp [h8, hk2, -e_noX, h5, Row.d, c1]
      · intro r hr
        rcases List.mem_append.mp hr with hr | hr
        · exact ok r hr
        · rcases List.mem_singleton.mp hr with rfl
          refine ⟨l8, ?_, hp⟩
          have : ys.length = k := by rw [y5, rng_len]
          rw [ep, List.length_map] at this
          show ps.length ≤ 2
          omega
  subst e2
  rw [rng_len] at e3
  refine ⟨rs, S2, ?_, by omega, by omega, e4, d2, l2⟩
  simp [h1, hmI, hr, h2, rowsD]
end Pu

/-! text: Q6 -/
set_option Elab.async false
set_option linter.all false
set_option maxRecDepth 100000
set_option maxHeartbeats 1000000
namespace Pu
open PySem PySem.Spec L2 Sm Wk
theorem is_number (i lo hi : Int) (S : Sto) : m_is_number [.int i, .int lo, .int hi] S = .ok (.bl (decide (lo ≤ i) && decide (i ≤ hi))) S := by
  unfold m_is_number b_is_number
  have h := e_chain (f := leI) (g := leI) (x := vb [.val (.int i), .val (.int lo), .val (.int hi)] 1) (y := vb [.val (.int i), .val (.int lo), .val (.int hi)] 0) (z := vb [.val (.int i), .val (.int lo), .val (.int hi)] 2) (S := S) rfl rfl rfl (e_le lo i S) (e_le i hi S)
  simp [h]
theorem labs : LETTERS_L.map D.str = [.str "a", .str "b", .str "c", .str "d"] := rfl
theorem is_label (s : Str) (h : letter s) (S : Sto) : m_is_label [.str s] S = .ok (.bl true) S := by
  have e : inD false (.str s) (.tup [.str "a", .str "b", .str "c", .str "d"]) S = some (.bl true) := by
    unfold inD
    rcases h with rfl | rfl | rfl | rfl <;> simp [D.py, D.pys, PyData.eqv, PyData.depth, PyData.depthAll, anyE]
  unfold m_is_label b_is_label
  simp [e]
theorem is_pointer (p : Pt) (h : p.ok) (S : Sto) : m_is_pointer [p.d] S = .ok (.bl true) S := by
  unfold m_is_pointer b_is_pointer
  cases p with
  | lab s => simp [Pt.d, is_label s h]
  | «at» k n =>
    obtain ⟨h1, h2⟩ := h
    cases k with
    | num =>
      have h3 : 0 ≤ n := h1
      simp [Pt.d, Kd.s, is_number, h3, h2]
    | abv =>
      have h3 : 1 ≤ n := h1
      simp [Pt.d, Kd.s, is_number, h3, h2]
    | blw =>
      have h3 : 1 ≤ n := h1
      simp [Pt.d, Kd.s, is_number, h3, h2]
    | fin =>
      have h3 : 0 ≤ n := h1
      simp [Pt.d, Kd.s, is_number, h3, h2]
@[simp] theorem allB (n : Nat) (S : Sto) : allD [.lst (List.replicate n (.bl true))] S = some (.bl true) := by
  have e : ∀ n, bools (List.replicate n (.bl true)) = some (List.replicate n true) := fun n => by
    induction n with
    | zero => rfl
    | succ n ih => rw [List.replicate_succ, List.replicate_succ]; unfold bools; rw [ih]
  show (match bools (List.replicate n (.bl true)) with | some bs => some (D.bl (bs.all id)) | none => none) = _
  rw [e]
  simp
/-- a comprehension of which every item is True -/
theorem lc_true {bnd : D → Option Sm.Env} {e : Sm.Env → M D} : ∀ (ds : List D) (S : Sto), (∀ d ∈ ds, ∃ ρ, bnd d = some ρ ∧ e ρ S = .ok (.bl true) S) → noX (lcM bnd (fun _ => rt true) e ds) S = .ok (List.replicate ds.length (.bl true)) S ∧ lcM bnd (fun _ => rt true) e ds S = .ok (List.replicate ds.length (.bl true)) S
  | [], S, _ => ⟨rfl, rfl⟩
  | d :: ds, S, h => by
    obtain ⟨ρ, h1, h2⟩ := h d List.mem_cons_self
    obtain ⟨_, h4⟩ := lc_true ds S fun d hd => h d (List.mem_cons_of_mem _ hd)
    have key : lcM bnd (fun _ => rt true) e (d :: ds) S = .ok (List.replicate (d :: ds).length (.bl true)) S := by
      unfold lcM
      rw [h1]
      simp [h2, h4, List.replicate_succ]
    exact ⟨by unfold noX; rw [key], key⟩
@[simp] theorem e_seqT (ds : List D) (S : Sto) : seqM (.tup ds) S = .ok ds S := rfl
theorem is_step (r : Row) (h : r.ok) (S : Sto) : m_is_step [r.d] S = .ok (.bl true) S := by
  obtain ⟨hl, h2, hp⟩ := h
  have hlc := (lc_true (bnd := fun d => bindD (.one 1) d (wipeE [.val r.d, .no] [1])) (e := ce_is_step_0) (r.pts.map Pt.d) S fun d hd => by
    obtain ⟨p, hp1, rfl⟩ := List.mem_map.mp hd
    exact ⟨_, rfl, by unfold ce_is_step_0; simp [wipeE, is_pointer p (hp p hp1)]⟩).2
  have hlen : ¬ (2 : Int) < (r.pts.length : Int) := by omega
  unfold m_is_step
  rw [n_is_step]
  simp only [Row.d] at hlc
  rcases hl with h | ⟨s, h, hs⟩
  · rw [h] at hlc
    simp only [labD] at hlc
    simp [Row.d, h, labD, hlen, hlc]
  · rw [h] at hlc
    simp only [labD] at hlc
    simp [Row.d, h, labD, hlen, hlc, is_label s hs]
/-- Steps(rows) -/
theorem steps_init (rs : List Row) (h : ∀ r ∈ rs, r.ok) (hl : rs.length ≤ 6) (S : Sto) : m_Steps_init [rowsD rs] S = .ok (.ins 0 [rowsD rs]) S := by
  have key : ∀ (ds : List Row) (k : Nat) (x2 x3 : Slot), (∀ r ∈ ds, r.ok) → ∃ y2 y3, Sm.forM (.tup [2, 3]) (fun ρ => bd (notT (boolT (bd (consM (vl ρ 3) (rt [])) fun ds => callM 1 m_is_step ds))) fun t => iteM t ((fun _ => stk) ρ) (nextS ρ)) (enumL k (ds.map Row.d)) [.ownI 0 [none], .val (rowsD rs), x2, x3] S = .ok (.nx [.ownI 0 [none], .val (rowsD rs), y2, y3]) S := fun ds => by
    induction ds with
    | nil => exact fun k x2 x3 _ => ⟨x2, x3, rfl⟩
    | cons r ds ih =>
      intro k x2 x3 hr
      obtain ⟨y2, y3, e⟩ := ih (k + 1) (.val (.int k)) (.val r.d) fun r hr' => hr r (List.mem_cons_of_mem _ hr')
      refine ⟨y2, y3, ?_⟩
      rw [List.map_cons]
      unfold enumL Sm.forM
      simp [bindD, setsE, is_step r (hr r List.mem_cons_self), e]
  obtain ⟨y2, y3, e⟩ := key rs 0 .no .no h
  have hlen : ¬ (6 : Int) < (rs.length : Int) := by omega
  unfold m_Steps_init initM b_Steps_init
  unfold rowsD at e ⊢
  simp [hlen, e, iniM, iniE, selfM, allS]
theorem steps_rows (d : D) (S : Sto) : m_Steps_rows [.ins 0 [d]] S = .ok d S := by
  unfold m_Steps_rows b_Steps_rows
  simp
theorem way_words (d : D) (S : Sto) : m_Way_words [.ins 1 [d]] S = .ok d S := by
  unfold m_Way_words b_Way_words
  simp
theorem check_steps (d : D) (S : Sto) : m_check_steps [.ins 0 [d]] S = .ok .non S := by
  unfold m_check_steps b_check_steps
  simp
theorem check_way (d : D) (S : Sto) : m_check_way [.ins 1 [d]] S = .ok .non S := by
  unfold m_check_way b_check_way
  simp
end Pu

/-! text: Q7 -/
set_option Elab.async false
set_option linter.all false
set_option maxRecDepth 100000
set_option maxHeartbeats 1000000
namespace Pu
open PySem PySem.Spec L2 Sm Wk
def natO : Option Nat → D
  | none => .non
  | some i => .int (i : Int)
def firstL : List Row → Str → Option Nat
  | [], _ => none
  | r :: rs, l => if r.lab = some l then some 0 else (firstL rs l).map (· + 1)
theorem first_lt : ∀ {rs : List Row} {l : Str} {i : Nat}, firstL rs l = some i → i < rs.length
  | [], _, _, h => by cases h
  | r :: rs, l, i, h => by
    unfold firstL at h
    split at h
    · cases h; simp
    · cases e : firstL rs l with
      | none => rw [e] at h; cases h
      | some j =>
        rw [e] at h
        cases h
        have := first_lt e
        simp; omega
def spotI (many at_ n : Int) : Kd → Int
  | .num => n
  | .abv => at_ - n
  | .blw => at_ + n
  | .fin => many - 1 - n
def means (rs : List Row) (at_ : Nat) : Pt → Option Nat
  | .lab l => firstL rs l
  | .at k n => if 0 ≤ spotI rs.length at_ n k ∧ spotI rs.length at_ n k < rs.length then some (spotI rs.length at_ n k).toNat else none
theorem means_lt {rs : List Row} {at_ : Nat} {p : Pt} {i : Nat} (h : means rs at_ p = some i) : i < rs.length := by
  cases p with
  | lab l => exact first_lt h
  | «at» k n =>
    simp only [means] at h
    split at h
    · injection h with h; omega
    · exact nomatch h
theorem lab_eq (r : Row) (l : Str) (S : Sto) : eqD (labD r.lab) (.str l) S = some (.bl (decide (r.lab = some l))) := by
  cases h : r.lab with
  | none => simp [labD]
  | some a => simp [labD]
theorem first_with (rs : List Row) (l : Str) (S : Sto) : m_first_with [rowsD rs, .str l] S = .ok (natO (firstL rs l)) S := by
  have key : ∀ (ds : List Row) (k : Nat) (x2 x3 : Slot), (∃ i, firstL ds l = some i ∧ Sm.forM (.tup [2, 3]) (fun ρ => bd (boolT (o2 eqD (o2 ixD (vb ρ 3) (rt (.int 0))) (vb ρ 1))) fun t => iteM t ((fun ρ => bd (vl ρ 2) fun d => rt (.ret d)) ρ) (nextS ρ)) (enumL k (ds.map Row.d)) [.val (rowsD rs), .val (.str l), x2, x3] S = .ok (.ret (.int ((k + i : Nat) : Int))) S) ∨
      (firstL ds l = none ∧ ∃ y2 y3, Sm.forM (.tup [2, 3]) (fun ρ => bd (boolT (o2 eqD (o2 ixD (vb ρ 3) (rt (.int 0))) (vb ρ 1))) fun t => iteM t ((fun ρ => bd (vl ρ 2) fun d => rt (.ret d)) ρ) (nextS ρ)) (enumL k (ds.map Row.d)) [.val (rowsD rs), .val (.str l), x2, x3] S = .ok (.nx [.val (rowsD rs), .val (.str l), y2, y3]) S) := fun ds => by
    induction ds with
    | nil => exact fun k x2 x3 => .inr ⟨rfl, x2, x3, rfl⟩
    | cons r ds ih =>
      intro k x2 x3
      rw [List.map_cons]
      unfold enumL Sm.forM firstL
      have le := fun S => lab_eq r l S
      by_cases h : r.lab = some l
      · refine .inl ⟨0, by rw [if_pos h], ?_⟩
        rw [decide_eq_true h] at le
        simp [bindD, setsE, Row.d, le]
      · rw [if_neg h]
        rw [decide_eq_false h] at le
        rcases ih (k + 1) (.val (.int (k : Int))) (.val r.d) with ⟨i, h1, h2⟩ | ⟨h1, y2, y3, h2⟩
        · refine .inl ⟨i + 1, by rw [h1]; rfl, ?_⟩
          simp only [Row.d] at h2
          simp [bindD, setsE, Row.d, le, h2]
          omega
        · refine .inr ⟨by rw [h1]; rfl, y2, y3, ?_⟩
          simp only [Row.d] at h2
          simp [bindD, setsE, Row.d, le, h2]
  unfold m_first_with b_first_with
  rcases key rs 0 .no .no with ⟨i, h1, h2⟩ | ⟨h1, y2, y3, h2⟩
  · unfold rowsD at h2 ⊢
    rw [h1]
    simp [h2, natO]
  · unfold rowsD at h2 ⊢
    rw [h1]
    simp [h2, natO]
theorem meaning (rs : List Row) (at_ : Nat) (p : Pt) (S : Sto) : m_meaning [rowsD rs, .int (at_ : Int), p.d] S = .ok (natO (means rs at_ p)) S := by
  have hf := fun l S => first_with rs l S
  unfold m_meaning b_meaning
  cases p with
  | lab l =>
    unfold rowsD at hf ⊢
    simp [Pt.d, hf, means]
  | «at» k n =>
    have key : ∀ (i m : Int) (ρ : Sm.Env) (S : Sto), ρ[5]? = some (.val (.int i)) → ρ[0]? = some (.val (rowsD rs)) → chainM leI ltI (rt (.int 0)) (vb ρ 5) (c1 lenD (consM (vb ρ 0) (rt []))) S = .ok (.bl (decide (0 ≤ i) && decide (i < rs.length))) S := fun i m ρ S h5 h0 =>
      e_chain (a := .int 0) (b := .int i) (d := .int rs.length) rfl (by simp [h5]) (by simp [h0, rowsD]) (by simp) (by simp)
    have res : ∀ i : Int, (if 0 ≤ i ∧ i < (rs.length : Int) then D.int i else D.non) = natO (if 0 ≤ i ∧ i < (rs.length : Int) then some i.toNat else none) := fun i => by
      by_cases h : 0 ≤ i ∧ i < (rs.length : Int)
      · rw [if_pos h, if_pos h]
        unfold natO
        congr 1
        omega
      · rw [if_neg h, if_neg h]; rfl
    unfold means
    rw [← res]
    have fin : ∀ (i : Int), (0 ≤ i ∧ i < (rs.length : Int)) ∨ ¬ (0 ≤ i ∧ i < (rs.length : Int)) := fun i => Decidable.em _
    cases k with
    | num =>
      have k5 := key n 0 [.val (rowsD rs), .val (.int (at_ : Int)), .val (.tup [.str "number", .int n]), .val (.str "number"), .val (.int n), .val (.int n)] S rfl rfl
      rcases fin n with h | h
      · have e := h.1
        have e2 := h.2
        simp [Pt.d, Kd.s, spotI, k5, e, e2]
      · have e : (decide (0 ≤ n) && decide (n < (rs.length : Int))) = false := by
          rw [Bool.eq_false_iff]; simpa using h
        rw [e] at k5
        have h' : ¬ (0 ≤ spotI rs.length at_ n Kd.num ∧ spotI rs.length at_ n Kd.num < (rs.length : Int)) := h
        simp only [if_neg h']
        simp [Pt.d, Kd.s, spotI, k5]
    | abv =>
      have k5 := key (at_ - n) 0 [.val (rowsD rs), .val (.int (at_ : Int)), .val (.tup [.str "above", .int n]), .val (.str "above"), .val (.int n), .val (.int (at_ - n))] S rfl rfl
      rcases fin (at_ - n) with h | h
      · have h' : (0 ≤ spotI rs.length at_ n Kd.abv ∧ spotI rs.length at_ n Kd.abv < (rs.length : Int)) := h
        have e : (decide (0 ≤ (at_ : Int) - n) && decide ((at_ : Int) - n < (rs.length : Int))) = true := by simpa using h
        rw [e] at k5
        simp only [if_pos h']
        simp [Pt.d, Kd.s, spotI, k5]
      · have e : (decide (0 ≤ (at_ : Int) - n) && decide ((at_ : Int) - n < (rs.length : Int))) = false := by
          rw [Bool.eq_false_iff]; simpa using h
        rw [e] at k5
        have h' : ¬ (0 ≤ spotI rs.length at_ n Kd.abv ∧ spotI rs.length at_ n Kd.abv < (rs.length : Int)) := h
        simp only [if_neg h']
        simp [Pt.d, Kd.s, spotI, k5]
    | blw =>
      have k5 := key (at_ + n) 0 [.val (rowsD rs), .val (.int (at_ : Int)), .val (.tup [.str "below", .int n]), .val (.str "below"), .val (.int n), .val (.int (at_ + n))] S rfl rfl
      rcases fin (at_ + n) with h | h
      · have h' : (0 ≤ spotI rs.length at_ n Kd.blw ∧ spotI rs.length at_ n Kd.blw < (rs.length : Int)) := h
        have e : (decide (0 ≤ (at_ : Int) + n) && decide ((at_ : Int) + n < (rs.length : Int))) = true := by simpa using h
        rw [e] at k5
        simp only [if_pos h']
        simp [Pt.d, Kd.s, spotI, k5]
      · have e : (decide (0 ≤ (at_ : Int) + n) && decide ((at_ : Int) + n < (rs.length : Int))) = false := by
          rw [Bool.eq_false_iff]; simpa using h
        rw [e] at k5
        have h' : ¬ (0 ≤ spotI rs.length at_ n Kd.blw ∧ spotI rs.length at_ n Kd.blw < (rs.length : Int)) := h
        simp only [if_neg h']
        simp [Pt.d, Kd.s, spotI, k5]
    | fin =>
      have k5 := key (rs.length - 1 - n) 0 [.val (rowsD rs), .val (.int (at_ : Int)), .val (.tup [.str "end", .int n]), .val (.str "end"), .val (.int n), .val (.int (rs.length - 1 - n))] S rfl rfl
      rcases fin (rs.length - 1 - n) with h | h
      · have h' : (0 ≤ spotI rs.length at_ n Kd.fin ∧ spotI rs.length at_ n Kd.fin < (rs.length : Int)) := h
        have e : (decide (0 ≤ (rs.length : Int) - 1 - n) && decide ((rs.length : Int) - 1 - n < (rs.length : Int))) = true := by simpa using h
        rw [e] at k5
        simp only [if_pos h']
        unfold rowsD at k5 ⊢
        simp [Pt.d, Kd.s, spotI, k5]
      · have e : (decide (0 ≤ (rs.length : Int) - 1 - n) && decide ((rs.length : Int) - 1 - n < (rs.length : Int))) = false := by
          rw [Bool.eq_false_iff]; simpa using h
        rw [e] at k5
        have h' : ¬ (0 ≤ spotI rs.length at_ n Kd.fin ∧ spotI rs.length at_ n Kd.fin < (rs.length : Int)) := h
        simp only [if_neg h']
        unfold rowsD at k5 ⊢
        simp [Pt.d, Kd.s, spotI, k5]
end Pu

/-! text: Q8 -/
set_option Elab.async false
set_option linter.all false
set_option maxRecDepth 100000
set_option maxHeartbeats 1000000
namespace Pu
open PySem PySem.Spec L2 Sm Wk
def pointI (here there many : Int) : Kd → Int
  | .num => there
  | .abv => here - there
  | .blw => there - here
  | .fin => many - 1 - there
def keepP (w : Str) (mv : Bool) (k : Kd) (n here there many : Int) : Pt :=
  if w = "raw" ∨ (w = "shift" ∧ mv = true) then .at k n else if pointI here there many k < lowK k then .at k n else .at k (pointI here there many k)
def keepO (w : Ws) (mv : Bool) (p : Pt) (here : Int) (there : Option Nat) (many : Int) : Pt := match p, there with
  | .at k n, some t => keepP (w.of k) mv k n here t many
  | p, _ => p
theorem kinds_ix : idxS KINDS_L "number" = some 0 ∧ idxS KINDS_L "above" = some 1 ∧ idxS KINDS_L "below" = some 2 ∧ idxS KINDS_L "end" = some 3 := by
  simp [idxS]
theorem pointing (k : Kd) (here there many : Int) (h9 : pointI here there many k ≤ 9) (S : Sto) : m_pointing [.str k.s, .int here, .int there, .int many] S = .ok (if pointI here there many k < lowK k then .non else .tup [.str k.s, .int (pointI here there many k)]) S := by
  unfold m_pointing b_pointing
  by_cases h : pointI here there many k < lowK k
  · rw [if_pos h]
    cases k with
    | num =>
      have h' : there < 0 := h
      have : ¬ 0 ≤ there := by omega
      simp [Kd.s, is_number, this]
    | abv =>
      have h' : here - there < 1 := h
      have : ¬ 1 ≤ here - there := by omega
      simp [Kd.s, is_number, this]
    | blw =>
      have h' : there - here < 1 := h
      have : ¬ 1 ≤ there - here := by omega
      simp [Kd.s, is_number, this]
    | fin =>
      have h' : many - 1 - there < 0 := h
      have : ¬ 0 ≤ many - 1 - there := by omega
      simp [Kd.s, is_number, this, -Int.sub_nonneg]
  · rw [if_neg h]
    cases k with
    | num =>
      have h' : ¬ there < 0 := h
      have h1 : there ≤ 9 := h9
      have : 0 ≤ there := by omega
      simp [Kd.s, is_number, this, h1, pointI]
    | abv =>
      have h' : ¬ here - there < 1 := h
      have h1 : here - there ≤ 9 := h9
      have : 1 ≤ here - there := by omega
      simp [Kd.s, is_number, this, h1, pointI]
    | blw =>
      have h' : ¬ there - here < 1 := h
      have h1 : there - here ≤ 9 := h9
      have : 1 ≤ there - here := by omega
      simp [Kd.s, is_number, this, h1, pointI]
    | fin =>
      have h' : ¬ many - 1 - there < 0 := h
      have h1 : many - 1 - there ≤ 9 := h9
      have : 0 ≤ many - 1 - there := by omega
      simp [Kd.s, is_number, this, h1, pointI, -Int.sub_nonneg]
theorem kept_raw (w : Str) (mv : Bool) (k : Kd) (n here there many : Int) (h : w = "raw" ∨ (w = "shift" ∧ mv = true)) : keepP w mv k n here there many = .at k n := by
  unfold keepP; rw [if_pos h]
theorem kept (w : Ws) (z : Str) (r : List D) (p : Pt) (here : Int) (there : Option Nat) (many : Int) (h9 : ∀ t k, there = some t → pointI here t many k ≤ 9) (S : Sto) : m_kept [w.d, .tup (.str z :: r), p.d, .int here, natO there, .int many] S = .ok (keepO w (decide (z = "move")) p here there many).d S := by
  obtain ⟨mv, hz⟩ : ∃ mv, decide (z = "move") = mv := ⟨_, rfl⟩
  rw [hz]
  obtain ⟨k1, k2, k3, k4⟩ := kinds_ix
  unfold m_kept b_kept
  cases p with
  | lab l => cases there <;> simp [Pt.d, keepO]
  | «at» k n =>
    cases there with
    | none => cases k <;> simp [Pt.d, Kd.s, keepO, natO]
    | some t =>
      have hp := fun S => pointing k here t many (h9 t k rfl) S
      show _ = Res.ok (keepP (w.of k) mv k n here t many).d S
      by_cases h1 : w.of k = "raw"
      · rw [kept_raw _ _ _ _ _ _ _ (.inl h1)]
        cases k <;> (simp only [Ws.of] at h1; simp [Pt.d, Kd.s, natO, Ws.d, k1, k2, k3, k4, h1])
      · by_cases h2 : w.of k = "shift" ∧ mv = true
        · rw [kept_raw _ _ _ _ _ _ _ (.inr h2)]
          rw [h2.2] at hz
          cases k <;> (simp only [Ws.of] at h1 h2; simp [Pt.d, Kd.s, natO, Ws.d, k1, k2, k3, k4, h1, h2.1, hz])
        · have key : keepP (w.of k) mv k n here t many = if pointI here t many k < lowK k then .at k n else .at k (pointI here t many k) := by
            unfold keepP
            rw [if_neg (by rintro (z | z) <;> contradiction)]
          rw [key]
          have ht : ∀ S, (boolT (o2 eqD (rt (.str (w.of k))) (rt (.str "raw")))) S = .ok false S := fun S => by simp [h1]
          have hs : (decide (w.of k = "shift") && decide (z = "move")) = false := by
            rw [hz]
            rw [Bool.eq_false_iff]
            simpa using h2
          by_cases hlt : pointI here t many k < lowK k
          · rw [if_pos hlt] at hp ⊢
            by_cases h3 : w.of k = "shift"
            · have h4 : ¬ z = "move" := by
                rw [decide_eq_true h3] at hs
                simpa using hs
              cases k <;> (simp only [Ws.of] at h1 h3; simp only [Kd.s] at hp; simp [Pt.d, Kd.s, natO, Ws.d, k1, k2, k3, k4, h1, h3, h4, hp])
            · cases k <;> (simp only [Ws.of] at h1 h3; simp only [Kd.s] at hp; simp [Pt.d, Kd.s, natO, Ws.d, k1, k2, k3, k4, h1, h3, hp])
          · rw [if_neg hlt] at hp ⊢
            by_cases h3 : w.of k = "shift"
            · have h4 : ¬ z = "move" := by
                rw [decide_eq_true h3] at hs
                simpa using hs
              cases k <;> (simp only [Ws.of] at h1 h3; simp only [Kd.s] at hp; simp [Pt.d, Kd.s, natO, Ws.d, k1, k2, k3, k4, h1, h3, h4, hp])
            · cases k <;> (simp only [Ws.of] at h1 h3; simp only [Kd.s] at hp; simp [Pt.d, Kd.s, natO, Ws.d, k1, k2, k3, k4, h1, h3, hp])
end Pu

/-! text: Q9 -/
set_option Elab.async false
set_option linter.all false
set_option maxRecDepth 100000
set_option maxHeartbeats 1000000
namespace Pu
open PySem PySem.Spec L2 Sm Wk
theorem first_head (rs : List Row) (l : Str) : ((List.range rs.length).filterMap fun i => if (rs[i]?.bind Row.lab) = some l then some i else none).head? = firstL rs l := by
  induction rs with
  | nil => rfl
  | cons r rs ih =>
    rw [List.length_cons, List.range_succ_eq_map, List.filterMap_cons]
    unfold firstL
    by_cases h : r.lab = some l
    · simp [h]
    · simp only [List.getElem?_cons_zero, Option.bind_some, if_neg h, List.filterMap_map]
      rw [← ih]
      have e : ((fun i => if ((r :: rs)[i]?.bind Row.lab) = some l then some i else none) ∘ Nat.succ) = fun i => Option.map (fun x : Nat => x + 1) (if (rs[i]?.bind Row.lab) = some l then some i else none) := by
        funext i
        simp only [Function.comp, List.getElem?_cons_succ]
        split <;> rfl
      rw [e]
      rw [← List.map_filterMap]
      cases (List.filterMap (fun i => if (rs[i]?.bind Row.lab) = some l then some i else none) (List.range rs.length)) <;> rfl
/-- a sequence of rows, tuple or list -/
structure IsRows (v : D) (rs : List Row) : Prop where
  len : ∀ S, lenD [v] S = some (.int rs.length)
  ix : ∀ i S, ixD v (.int i) S = L2.atI (rs.map Row.d) i
theorem isRowsT (rs : List Row) : IsRows (rowsD rs) rs := ⟨fun S => by simp [rowsD], fun i S => by simp [rowsD]⟩
theorem isRowsL (rs : List Row) : IsRows (.lst (rs.map Row.d)) rs := ⟨fun S => by simp, fun i S => by simp⟩
theorem law_meant {v : D} {rs : List Row} (hv : IsRows v rs) (hl : rs.length ≤ 1000) (at_ : Nat) (p : Pt) (S : Sto) : m__law_meant [v, .int (at_ : Int), p.d] S = .ok (natO (means rs at_ p)) S := by
  have hL := hv.len
  have hX := hv.ix
  unfold m__law_meant
  rw [n__law_meant]
  cases p with
  | lab l =>
    have hr : ∀ ρ : Sm.Env, ρ[0]? = some (.val v) → ∀ S, range1M (consM (c1 lenD (consM (vb ρ 0) (rt []))) (rt [])) S = .ok (rng 0 rs.length) S := fun ρ h S => e_range1 (n := rs.length) (by simp [h, hL]) (by omega)
    have hlc := lc_pure (bnd := fun d => bindD (.one 3) d (wipeE [.val v, .val (.int (at_ : Int)), .val (Pt.lab l).d, .no, .val (.str "label"), .val (.str l), .no] [3]))
      (t := ct__law_meant_0) (e := ce__law_meant_0) (S := S)
      (f := fun d => match d with
        | .int i => if (rs[i.toNat]?.bind Row.lab) = some l then some (.int i) else none
        | _ => none) (rng 0 rs.length) fun d hd => by
        obtain ⟨i, hi, rfl⟩ : ∃ i : Nat, i < rs.length ∧ d = .int (i : Int) := by
          unfold rng at hd
          obtain ⟨i, hi, e⟩ := List.mem_map.mp hd
          exact ⟨i, List.mem_range.mp hi, by rw [← e]; simp⟩
        refine ⟨_, rfl, ?_⟩
        have e1 : L2.atI (rs.map Row.d) (i : Int) = some (Row.d rs[i]) := e_atS (by simp [hi])
        have le := fun S => lab_eq rs[i] l S
        unfold ct__law_meant_0 ce__law_meant_0
        by_cases h : rs[i].lab = some l
        · refine .inr ⟨.int (i : Int), ?_, ?_, ?_⟩
          · simp [hi, h]
          · rw [decide_eq_true h] at le
            simp [wipeE, hX, e1, Row.d, Pt.d, le]
          · simp [wipeE]
        · refine .inl ⟨?_, ?_⟩
          · simp [hi, h]
          · rw [decide_eq_false h] at le
            simp [wipeE, hX, e1, Row.d, Pt.d, le]
    have ef : (rng 0 rs.length).filterMap (fun d => match d with
        | .int i => if (rs[i.toNat]?.bind Row.lab) = some l then some (D.int i) else none
        | _ => none) = ((List.range rs.length).filterMap fun i => if (rs[i]?.bind Row.lab) = some l then some i else none).map fun i : Nat => D.int (i : Int) := by
      unfold rng
      rw [List.filterMap_map, List.map_filterMap]
      congr 1
      funext i
      simp only [Function.comp, Int.zero_add, Int.toNat_natCast]
      split <;> rfl
    rw [ef] at hlc
    have hd := first_head rs l
    obtain ⟨is, his⟩ : ∃ is, (List.range rs.length).filterMap (fun i => if (rs[i]?.bind Row.lab) = some l then some i else none) = is := ⟨_, rfl⟩
    rw [his] at hd
    rw [his] at hlc
    have nn := ne_nilI is
    show _ = Res.ok (natO (firstL rs l)) S
    rw [← hd]
    simp only [Pt.d] at hlc
    simp [Pt.d, hlc, hr]
    cases is with
    | nil =>
      simp only [List.map_nil] at nn
      simp [natO, nn]
    | cons i is =>
      rw [List.map_cons] at nn
      simp [natO, nn]
  | «at» k n =>
    have key : ∀ (i : Int) (ρ : Sm.Env) (S : Sto), ρ[3]? = some (.val (.int i)) → ρ[0]? = some (.val v) → chainM leI ltI (rt (.int 0)) (vb ρ 3) (c1 lenD (consM (vb ρ 0) (rt []))) S = .ok (.bl (decide (0 ≤ i) && decide (i < rs.length))) S := fun i ρ S h3 h0 =>
      e_chain (a := .int 0) (b := .int i) (d := .int rs.length) rfl (by simp [h3]) (by simp [h0, hL]) (by simp) (by simp)
    have fin : ∀ i : Int, i = spotI rs.length at_ n k → m__law_meant [v, .int (at_ : Int), (Pt.at k n).d] S = .ok (if (decide (0 ≤ i) && decide (i < (rs.length : Int))) = true then .int i else .non) S := by
      intro i hi
      unfold m__law_meant
      rw [n__law_meant]
      obtain ⟨bb, hb⟩ : ∃ bb, (decide (0 ≤ i) && decide (i < (rs.length : Int))) = bb := ⟨_, rfl⟩
      cases k with
      | num =>
        have h : n = i := hi.symm
        have k5 := key i [.val v, .val (.int (at_ : Int)), .val (.tup [.str "number", .int n]), .val (.int i), .val (.str "number"), .val (.int n), .no] S rfl rfl
        rw [hb] at k5
        subst h
        cases bb <;> simpa [Pt.d, Kd.s, hL, k5] using hb
      | abv =>
        have h : at_ - n = i := hi.symm
        have k5 := key i [.val v, .val (.int (at_ : Int)), .val (.tup [.str "above", .int n]), .val (.int i), .val (.str "above"), .val (.int n), .no] S rfl rfl
        rw [hb] at k5
        cases bb <;> simpa [Pt.d, Kd.s, hL, h, k5] using hb
      | blw =>
        have h : at_ + n = i := hi.symm
        have k5 := key i [.val v, .val (.int (at_ : Int)), .val (.tup [.str "below", .int n]), .val (.int i), .val (.str "below"), .val (.int n), .no] S rfl rfl
        rw [hb] at k5
        cases bb <;> simpa [Pt.d, Kd.s, hL, h, k5] using hb
      | fin =>
        have h : (rs.length : Int) - 1 - n = i := hi.symm
        have k5 := key i [.val v, .val (.int (at_ : Int)), .val (.tup [.str "end", .int n]), .val (.int i), .val (.str "end"), .val (.int n), .no] S rfl rfl
        rw [hb] at k5
        cases bb <;> simpa [Pt.d, Kd.s, hL, h, k5] using hb
    have f2 := fin _ rfl
    unfold m__law_meant at f2
    rw [n__law_meant] at f2
    rw [f2]
    simp only [means]
    by_cases h : 0 ≤ spotI rs.length at_ n k ∧ spotI rs.length at_ n k < (rs.length : Int)
    · have hb : (decide (0 ≤ spotI rs.length at_ n k) && decide (spotI rs.length at_ n k < (rs.length : Int))) = true := by simpa using h
      rw [if_pos hb, if_pos h]
      unfold natO
      have := h.1
      congr 2
      omega
    · have hb : ¬ (decide (0 ≤ spotI rs.length at_ n k) && decide (spotI rs.length at_ n k < (rs.length : Int))) = true := by simpa using h
      rw [if_neg hb, if_neg h]
      rfl
end Pu

/-! text: Q10 -/
set_option Elab.async false
set_option linter.all false
set_option maxRecDepth 100000
set_option maxHeartbeats 1000000
namespace Sm
open PySem PySem.Spec L2
/-! ### plain data: == is equality -/
def clean : Nat → D → Bool
  | _, .non => true
  | _, .int _ => true
  | _, .str _ => true
  | n + 1, .tup ds => ds.all (clean n)
  | n + 1, .lst ds => ds.all (clean n)
  | _, _ => false
theorem cleans_py {n : Nat} (ih : ∀ d, clean n d = true → ∃ p, D.py d = some p ∧ p.depth ≤ n) : ∀ ds : List D, ds.all (clean n) = true → ∃ ps, D.pys ds = some ps ∧ PyData.depthAll ps ≤ n
  | [], _ => ⟨[], by simp [D.pys], by simp [PyData.depthAll]⟩
  | d :: ds, h => by
    rw [List.all_cons, Bool.and_eq_true] at h
    obtain ⟨p, h1, h2⟩ := ih d h.1
    obtain ⟨ps, h3, h4⟩ := cleans_py ih ds h.2
    refine ⟨p :: ps, by simp [D.pys, h1, h3], ?_⟩
    simp only [PyData.depthAll]
    omega
theorem clean_py : ∀ (n : Nat) (d : D), clean n d = true → ∃ p, D.py d = some p ∧ p.depth ≤ n
  | 0, d, h => by
    cases d <;> simp [clean] at h <;> exact ⟨_, rfl, by simp [PyData.depth]⟩
  | n + 1, d, h => by
    cases d with
    | tup ds =>
      obtain ⟨ps, h1, h2⟩ := cleans_py (clean_py n) ds (by simpa [clean] using h)
      exact ⟨.tuple ps, by simp [D.py, h1], by simp only [PyData.depth]; omega⟩
    | lst ds =>
      obtain ⟨ps, h1, h2⟩ := cleans_py (clean_py n) ds (by simpa [clean] using h)
      exact ⟨.list ps, by simp [D.py, h1], by simp only [PyData.depth]; omega⟩
    | _ => simp [clean] at h <;> exact ⟨_, rfl, by simp [PyData.depth]⟩
theorem cleans_eqv {n : Nat} (ih : ∀ d e p q, clean n d = true → clean n e = true → D.py d = some p → D.py e = some q → (PyData.eqv p q = true ↔ d = e)) : ∀ (ds es : List D) (ps qs : List PyData), ds.all (clean n) = true → es.all (clean n) = true → D.pys ds = some ps → D.pys es = some qs → (PyData.eqvAll ps qs = true ↔ ds = es)
  | [], [], ps, qs, _, _, h3, h4 => by
    simp [D.pys] at h3 h4
    subst h3 h4
    simp [PyData.eqvAll]
  | [], e :: es, ps, qs, _, h2, h3, h4 => by
    rw [List.all_cons, Bool.and_eq_true] at h2
    obtain ⟨q, e1, _⟩ := clean_py n e h2.1
    obtain ⟨qs', e2, _⟩ := cleans_py (clean_py n) es h2.2
    simp [D.pys, e1, e2] at h3 h4
    subst h3 h4
    simp [PyData.eqvAll]
  | d :: ds, [], ps, qs, h1, _, h3, h4 => by
    rw [List.all_cons, Bool.and_eq_true] at h1
    obtain ⟨q, e1, _⟩ := clean_py n d h1.1
    obtain ⟨qs', e2, _⟩ := cleans_py (clean_py n) ds h1.2
    simp [D.pys, e1, e2] at h3 h4
    subst h3 h4
    simp [PyData.eqvAll]
  | d :: ds, e :: es, ps, qs, h1, h2, h3, h4 => by
    rw [List.all_cons, Bool.and_eq_true] at h1 h2
    obtain ⟨p, e1, _⟩ := clean_py n d h1.1
    obtain ⟨ps', e2, _⟩ := cleans_py (clean_py n) ds h1.2
    obtain ⟨q, e3, _⟩ := clean_py n e h2.1
    obtain ⟨qs', e4, _⟩ := cleans_py (clean_py n) es h2.2
    simp [D.pys, e1, e2] at h3
    simp [D.pys, e3, e4] at h4
    subst h3 h4
    have a := ih d e p q h1.1 h2.1 e1 e3
    have b := cleans_eqv ih ds es ps' qs' h1.2 h2.2 e2 e4
    simp only [PyData.eqvAll, Bool.and_eq_true, a, b, List.cons.injEq]
theorem clean_eqv : ∀ (n : Nat) (d e : D) (p q : PyData), clean n d = true → clean n e = true → D.py d = some p → D.py e = some q → (PyData.eqv p q = true ↔ d = e)
  | 0, d, e, p, q, h1, h2, h3, h4 => by
    cases d <;> simp [clean] at h1 <;> cases e <;> simp [clean] at h2 <;> simp [D.py] at h3 h4 <;> subst h3 h4 <;> simp [PyData.eqv, beqS]
  | n + 1, d, e, p, q, h1, h2, h3, h4 => by
    have key : ∀ d : D, clean (n + 1) d = true → d = .non ∨ (∃ i, d = .int i) ∨ (∃ s, d = .str s) ∨ (∃ ds ps, d = .tup ds ∧ ds.all (clean n) = true ∧ D.pys ds = some ps ∧ D.py d = some (.tuple ps)) ∨ (∃ ds ps, d = .lst ds ∧ ds.all (clean n) = true ∧ D.pys ds = some ps ∧ D.py d = some (.list ps)) := fun d h => by
      cases d with
      | tup ds =>
        have h' : ds.all (clean n) = true := by simpa [clean] using h
        obtain ⟨ps, e1, _⟩ := cleans_py (clean_py n) ds h'
        exact .inr (.inr (.inr (.inl ⟨ds, ps, rfl, h', e1, by simp [D.py, e1]⟩)))
      | lst ds =>
        have h' : ds.all (clean n) = true := by simpa [clean] using h
        obtain ⟨ps, e1, _⟩ := cleans_py (clean_py n) ds h'
        exact .inr (.inr (.inr (.inr ⟨ds, ps, rfl, h', e1, by simp [D.py, e1]⟩)))
      | non => exact .inl rfl
      | int i => exact .inr (.inl ⟨i, rfl⟩)
      | str s => exact .inr (.inr (.inl ⟨s, rfl⟩))
      | _ => simp [clean] at h
    rcases key d h1 with rfl | ⟨i, rfl⟩ | ⟨s, rfl⟩ | ⟨ds, ps, rfl, a1, a2, a3⟩ | ⟨ds, ps, rfl, a1, a2, a3⟩ <;> rcases key e h2 with rfl | ⟨i', rfl⟩ | ⟨s', rfl⟩ | ⟨es, qs, rfl, b1, b2, b3⟩ | ⟨es, qs, rfl, b1, b2, b3⟩ <;> (try rw [a3] at h3) <;> (try rw [b3] at h4) <;> simp [D.py] at h3 h4 <;> subst h3 h4 <;> (try simp [PyData.eqv, beqS]) <;> exact cleans_eqv (clean_eqv n) _ _ _ _ a1 b1 a2 b2
theorem eq_clean {n : Nat} (hn : n ≤ 60) {d e : D} (hd : clean n d = true) (he : clean n e = true) : ∃ b : Bool, (∀ S, eqD d e S = some (.bl b)) ∧ (∀ S, neD d e S = some (.bl (!b))) ∧ (b = true ↔ d = e) := by
  obtain ⟨p, h1, h2⟩ := clean_py n d hd
  obtain ⟨q, h3, h4⟩ := clean_py n e he
  refine ⟨PyData.eqv p q, fun S => ?_, fun S => ?_, clean_eqv n d e p q hd he h1 h3⟩
  · unfold eqD
    simp only [h1, h3]
    exact if_pos (by omega)
  · unfold neD
    simp only [h1, h3]
    exact if_pos (by omega)
theorem eq_self {n : Nat} (hn : n ≤ 60) {d : D} (hd : clean n d = true) (S : Sto) : eqD d d S = some (.bl true) ∧ neD d d S = some (.bl false) := by
  obtain ⟨b, h1, h2, h3⟩ := eq_clean hn hd hd
  have : b = true := h3.mpr rfl
  subst this
  exact ⟨h1 S, h2 S⟩
theorem in_clean {n : Nat} (hn : n ≤ 60) {x : D} (hx : clean n x = true) {ds : List D} (hd : ds.all (clean n) = true) : ∃ b : Bool, (∀ S, inD false x (.lst ds) S = some (.bl b)) ∧ (∀ S, inD true x (.lst ds) S = some (.bl (!b))) ∧ (b = true ↔ x ∈ ds) := by
  obtain ⟨p, h1, h2⟩ := clean_py n x hx
  obtain ⟨ps, h3, h4⟩ := cleans_py (clean_py n) ds hd
  have key : ∀ (ds : List D) (ps : List PyData), ds.all (clean n) = true → D.pys ds = some ps → (anyE ps p = true ↔ x ∈ ds) := fun ds => by
    induction ds with
    | nil =>
      intro ps _ h
      simp [D.pys] at h
      subst h
      simp [anyE]
    | cons d ds ih =>
      intro ps hd h
      rw [List.all_cons, Bool.and_eq_true] at hd
      obtain ⟨q, e1, _⟩ := clean_py n d hd.1
      obtain ⟨qs, e2, _⟩ := cleans_py (clean_py n) ds hd.2
      simp [D.pys, e1, e2] at h
      subst h
      have a := clean_eqv n d x q p hd.1 hx e1 h1
      have b := ih qs hd.2 e2
      unfold anyE at b ⊢
      simp only [List.any_cons, Bool.or_eq_true, a, b, List.mem_cons]
      exact ⟨fun z => z.elim (fun z => .inl z.symm) .inr, fun z => z.elim (fun z => .inl z.symm) .inr⟩
  refine ⟨anyE ps p, fun S => ?_, fun S => ?_, key ds ps hd h3⟩
  · unfold inD
    simp only [h1, D.py, h3]
    exact if_pos (by omega)
  · unfold inD
    simp only [h1, D.py, h3]
    exact if_pos (by omega)
end Sm

/-! text: Q11 -/
set_option Elab.async false
set_option linter.all false
set_option maxRecDepth 100000
set_option maxHeartbeats 1000000
namespace Sm
open PySem PySem.Spec L2
@[simp] theorem e_idxM (o m : M D) (S : Sto) : idxM o m S = match o S with
  | .ok (.lst ds) S1 => (match m S1 with
    | .ok y S2 => (match idxD (.lst ds) y with
      | some d => .ok d S2
      | none => .stuck)
    | .err k fs S' => .err k fs S'
    | .stuck => .stuck)
  | .ok d S1 => bd (asL d) (fun ds => bd m fun y => opt (idxD (.lst ds) y)) S1
  | .err k fs S' => .err k fs S'
  | .stuck => .stuck := by
  unfold idxM
  rw [e_bd]
  cases o S with
  | ok d S1 =>
    cases d with
    | lst ds =>
      dsimp only
      rw [e_bd]
      unfold asL
      dsimp only
      rw [e_bd]
      cases m S1 with
      | ok y S2 =>
        dsimp only
        unfold opt
        cases idxD (.lst ds) y <;> rfl
      | err k fs S' => rfl
      | stuck => rfl
    | _ => rfl
  | err k fs S' => rfl
  | stuck => rfl
theorem idx_first : ∀ (ps : List PyData) (q : PyData) (j : Nat), (∃ p, ps[j]? = some p ∧ PyData.eqv p q = true) → (∀ i, i < j → ∀ p, ps[i]? = some p → PyData.eqv p q = false) → idxE ps q = some j ∧ anyE ps q = true
  | [], _, _, ⟨_, h, _⟩, _ => by simp at h
  | p :: ps, q, 0, ⟨p', h, h2⟩, _ => by
    simp at h
    subst h
    unfold idxE anyE
    simp [h2]
  | p :: ps, q, j + 1, ⟨p', h, h2⟩, hn => by
    have h0 := hn 0 (by omega) p rfl
    obtain ⟨a, b⟩ := idx_first ps q j ⟨p', by simpa using h, h2⟩ fun i hi p2 hp2 => hn (i + 1) (by omega) p2 (by simpa using hp2)
    unfold idxE
    unfold anyE at b ⊢
    rw [h0, a, List.any_cons, b]
    simp
theorem pys_map {α : Type} {f : α → D} {g : α → PyData} (h : ∀ x, D.py (f x) = some (g x)) : ∀ xs : List α, D.pys (xs.map f) = some (xs.map g)
  | [] => by simp [D.pys]
  | x :: xs => by simp [D.pys, h, pys_map h xs]
theorem pys_app : ∀ {a b : List D} {p q : List PyData}, D.pys a = some p → D.pys b = some q → D.pys (a ++ b) = some (p ++ q)
  | [], b, p, q, h1, h2 => by
    simp [D.pys] at h1
    subst h1
    simpa using h2
  | d :: a, b, p, q, h1, h2 => by
    cases e : D.py d with
    | none => simp [D.pys, e] at h1
    | some x =>
      cases e2 : D.pys a with
      | none => simp [D.pys, e, e2] at h1
      | some xs =>
        simp [D.pys, e, e2] at h1
        subst h1
        simp [D.pys, e, pys_app e2 h2]
theorem depth_le {k : Nat} : ∀ {ps : List PyData}, (∀ p ∈ ps, p.depth ≤ k) → PyData.depthAll ps ≤ k
  | [], _ => by simp [PyData.depthAll]
  | p :: ps, h => by
    have := h p List.mem_cons_self
    have := depth_le fun q hq => h q (List.mem_cons_of_mem _ hq)
    simp only [PyData.depthAll]
    omega
end Sm
namespace Pu
open PySem PySem.Spec L2 Sm Wk
@[simp] theorem natO_n : natO none = .non := rfl
@[simp] theorem natO_s (i : Nat) : natO (some i) = .int (i : Int) := rfl
def tokD (kd : Str) (i : Nat) : D := .tup [.str kd, .int (i : Int), .bl false]
def tokP (kd : Str) (i : Nat) : PyData := .tuple [.str kd, .int (i : Int), .bool false]
def partD (kd : Str) (s c : Nat) : List D := (List.range' s c).map (tokD kd)
def foundD (n m : Nat) : List D := partD "old" 0 n ++ partD "joined" 0 m
def foundP (n m : Nat) : List PyData := (List.range' 0 n).map (tokP "old") ++ (List.range' 0 m).map (tokP "joined")
def joinD (b : List Row) : D := .tup [.str "join", rowsD b]
structure Part (n m : Nat) (kd : Str) (off cnt : Nat) : Prop where
  is : (kd = "old" ∧ off = 0 ∧ cnt = n) ∨ (kd = "joined" ∧ off = n ∧ cnt = m)
theorem part_old (n m : Nat) : Part n m "old" 0 n := ⟨.inl ⟨rfl, rfl, rfl⟩⟩
theorem part_jn (n m : Nat) : Part n m "joined" n m := ⟨.inr ⟨rfl, rfl, rfl⟩⟩
theorem tok_py (kd : Str) (i : Nat) : D.py (tokD kd i) = some (tokP kd i) := by simp [tokD, tokP, D.py, D.pys]
theorem found_py (n m : Nat) : D.pys (foundD n m) = some (foundP n m) := pys_app (pys_map (tok_py "old") _) (pys_map (tok_py "joined") _)
theorem tok_eqv (a b : Str) (i j : Nat) : PyData.eqv (tokP a i) (tokP b j) = decide (a = b ∧ i = j) := by
  have : ((i : Int) = (j : Int)) = (i = j) := propext ⟨fun h => by omega, fun h => by omega⟩
  by_cases h : a = b
  · by_cases h2 : i = j
    · subst h h2; simp [tokP, PyData.eqv, PyData.eqvAll]
    · simp [tokP, PyData.eqv, PyData.eqvAll, h, h2, this]
  · simp [tokP, PyData.eqv, PyData.eqvAll, h, beqS]
theorem found_len (n m : Nat) : (foundD n m).length = n + m := by simp [foundD, partD]
theorem found_at {n m off cnt k : Nat} {kd : Str} (h : Part n m kd off cnt) (hk : k < cnt) : (foundD n m)[off + k]? = some (tokD kd k) := by
  rcases h.is with ⟨rfl, rfl, rfl⟩ | ⟨rfl, rfl, rfl⟩
  · unfold foundD partD
    rw [List.getElem?_append_left (by simpa using hk)]
    simp [hk]
  · unfold foundD partD
    rw [List.getElem?_append_right (by simp)]
    simp [hk]
theorem foundP_at {n m off cnt k : Nat} {kd : Str} (h : Part n m kd off cnt) (hk : k < cnt) : (foundP n m)[off + k]? = some (tokP kd k) := by
  rcases h.is with ⟨rfl, rfl, rfl⟩ | ⟨rfl, rfl, rfl⟩
  · unfold foundP
    rw [List.getElem?_append_left (by simpa using hk)]
    simp [hk]
  · unfold foundP
    rw [List.getElem?_append_right (by simp)]
    simp [hk]
theorem foundP_first {n m off cnt k : Nat} {kd : Str} (h : Part n m kd off cnt) (hk : k < cnt) : idxE (foundP n m) (tokP kd k) = some (off + k) ∧ anyE (foundP n m) (tokP kd k) = true := by
  refine idx_first _ _ _ ⟨_, foundP_at h hk, by rw [tok_eqv]; simp⟩ fun i hi p hp => ?_
  by_cases hin : i < n
  · have := foundP_at (part_old n m) hin
    rw [Nat.zero_add] at this
    rw [this] at hp
    cases hp
    rw [tok_eqv]
    rcases h.is with ⟨rfl, rfl, rfl⟩ | ⟨rfl, rfl, rfl⟩
    · simp; omega
    · simp
  · rcases h.is with ⟨rfl, rfl, rfl⟩ | ⟨rfl, rfl, rfl⟩
    · omega
    · have := foundP_at (part_jn off cnt) (k := i - off) (by omega)
      rw [show off + (i - off) = i by omega] at this
      rw [this] at hp
      cases hp
      rw [tok_eqv]
      simp; omega
theorem foundP_depth (n m : Nat) : PyData.depthAll (foundP n m) ≤ 1 := by
  refine depth_le fun p hp => ?_
  unfold foundP at hp
  rcases List.mem_append.mp hp with hp | hp <;> (obtain ⟨i, _, rfl⟩ := List.mem_map.mp hp; simp [tokP, PyData.depth, PyData.depthAll])
theorem in_found {n m off cnt k : Nat} {kd : Str} (h : Part n m kd off cnt) (hk : k < cnt) (S : Sto) : inD false (.tup [.str kd, .int (k : Int), .bl false]) (.lst (foundD n m)) S = some (.bl true) := by
  obtain ⟨a, b⟩ := foundP_first h hk
  have e1 : D.py (.tup [.str kd, .int (k : Int), .bl false]) = some (tokP kd k) := tok_py kd k
  have hl : D.py (.lst (foundD n m)) = some (.list (foundP n m)) := by simp [D.py, found_py]
  have := foundP_depth n m
  unfold inD
  simp only [e1, hl, b]
  rw [if_pos (by omega)]
  rfl
theorem idx_found {n m off cnt k : Nat} {kd : Str} (h : Part n m kd off cnt) (hk : k < cnt) : idxD (.lst (foundD n m)) (.tup [.str kd, .int (k : Int), .bl false]) = some (.int ((off + k : Nat) : Int)) := by
  obtain ⟨a, b⟩ := foundP_first h hk
  have e1 : D.py (.tup [.str kd, .int (k : Int), .bl false]) = some (tokP kd k) := tok_py kd k
  have hl : D.py (.lst (foundD n m)) = some (.list (foundP n m)) := by simp [D.py, found_py]
  have := foundP_depth n m
  unfold idxD
  simp only [e1, hl, a]
  rw [if_pos (by omega)]
  rfl
theorem in_found_non (n m : Nat) (S : Sto) : inD false .non (.lst (foundD n m)) S = some (.bl false) := by
  unfold inD
  simp only [D.py, found_py]
  have : anyE (foundP n m) .none = false := by
    unfold anyE foundP
    rw [List.any_append, List.any_map, List.any_map]
    simp [tokP, PyData.eqv, Function.comp]
  rw [this]
  exact if_pos (by simp [PyData.depth])
theorem standing {n m off cnt k : Nat} {kd : Str} (h : Part n m kd off cnt) (hk : k < cnt) (S : Sto) : m_standing [.lst (foundD n m), .str kd, .int (k : Int)] S = .ok (.int ((off + k : Nat) : Int)) S := by
  have i1 := fun S => in_found h hk S
  have i2 := idx_found h hk
  unfold m_standing b_standing
  simp [i1, i2, -Int.natCast_add]
theorem rng_part (n : Nat) : (rng 0 n) = (List.range' 0 n).map fun i : Nat => D.int (i : Int) := by
  unfold rng
  rw [List.range_eq_range']
  simp
theorem sources (a b : List Row) (ha : a.length ≤ 1000) (hb : b.length ≤ 1000) (S : Sto) : m_sources [rowsD a, joinD b] S = .ok (.lst (foundD a.length b.length)) S := by
  have hr : ∀ ρ : Sm.Env, ρ[0]? = some (.val (rowsD a)) → range1M (consM (c1 lenD (consM (vb ρ 0) (rt []))) (rt [])) S = .ok (rng 0 a.length) S := fun ρ h => e_range1 (n := a.length) (by simp [h, rowsD]) (by omega)
  have hr2 : ∀ ρ : Sm.Env, ρ[1]? = some (.val (joinD b)) → range1M (consM (c1 lenD (consM (o2 ixD (vb ρ 1) (rt (.int 1))) (rt []))) (rt [])) S = .ok (rng 0 b.length) S := fun ρ h => e_range1 (n := b.length) (by simp [h, joinD, rowsD]) (by omega)
  have h1 := fun (x : Slot) => lc_map (S := S) (bnd := fun d => bindD (.one 3) d (wipeE [.val (rowsD a), .val (joinD b), x, .no, .no] [3])) (e := ce_sources_1) (f := fun i : Nat => D.int (i : Int)) (g := tokD "old") (List.range' 0 a.length) fun i _ => ⟨_, rfl, by unfold ce_sources_1; simp [wipeE, tokD]⟩
  have h2 := fun (x : Slot) => lc_map (S := S) (bnd := fun d => bindD (.one 3) d (wipeE [.val (rowsD a), .val (joinD b), x, .no, .no] [3])) (e := ce_sources_0) (f := fun i : Nat => D.int (i : Int)) (g := tokD "joined") (List.range' 0 b.length) fun i _ => ⟨_, rfl, by unfold ce_sources_0; simp [wipeE, tokD]⟩
  rw [← rng_part] at h1 h2
  have c1 : a.length + b.length ≤ 100000 := by omega
  unfold m_sources
  rw [n_sources]
  simp only [joinD] at h1 h2 hr2
  simp only [joinD]
  simp [hr, hr2, h1, h2, foundD, partD, appM, starM, frzS, frzE, c1]
theorem law_sources (a b : List Row) (ha : a.length ≤ 1000) (hb : b.length ≤ 1000) (S : Sto) : m__law_sources [rowsD a, joinD b] S = .ok (.lst (foundD a.length b.length)) S := by
  have hr : ∀ ρ : Sm.Env, ρ[0]? = some (.val (rowsD a)) → range1M (consM (c1 lenD (consM (vb ρ 0) (rt []))) (rt [])) S = .ok (rng 0 a.length) S := fun ρ h => e_range1 (n := a.length) (by simp [h, rowsD]) (by omega)
  have hr2 : ∀ ρ : Sm.Env, ρ[1]? = some (.val (joinD b)) → range1M (consM (c1 lenD (consM (o2 ixD (vb ρ 1) (rt (.int 1))) (rt []))) (rt [])) S = .ok (rng 0 b.length) S := fun ρ h => e_range1 (n := b.length) (by simp [h, joinD, rowsD]) (by omega)
  have h1 := fun (x : Slot) => lc_map (S := S) (bnd := fun d => bindD (.one 4) d (wipeE [.val (rowsD a), .val (joinD b), x, .no, .no] [4])) (e := ce__law_sources_1) (f := fun i : Nat => D.int (i : Int)) (g := tokD "old") (List.range' 0 a.length) fun i _ => ⟨_, rfl, by unfold ce__law_sources_1; simp [wipeE, tokD]⟩
  have h2 := fun (x : Slot) => lc_map (S := S) (bnd := fun d => bindD (.one 4) d (wipeE [.val (rowsD a), .val (joinD b), x, .no, .no] [4])) (e := ce__law_sources_0) (f := fun i : Nat => D.int (i : Int)) (g := tokD "joined") (List.range' 0 b.length) fun i _ => ⟨_, rfl, by unfold ce__law_sources_0; simp [wipeE, tokD]⟩
  rw [← rng_part] at h1 h2
  have c1 : a.length + b.length ≤ 100000 := by omega
  have ea := fun (S : Sto) => e_addL (a := partD "old" 0 a.length) (b := partD "joined" 0 b.length) (by simp [partD]; omega) S
  unfold partD at ea
  unfold m__law_sources
  rw [n__law_sources]
  simp only [joinD] at h1 h2 hr2
  simp only [joinD]
  simp [hr, hr2, h1, h2, foundD, partD, ea]
theorem label_of {n m off i : Nat} {kd : Str} {a b lines : List Row} (h : Part n m kd off lines.length) (hl : (kd = "old" → lines = a) ∧ (kd = "joined" → lines = b)) {r : Row} (hi : lines[i]? = some r) (S : Sto) : m_label_of [rowsD a, joinD b, tokD kd i] S = .ok (labD r.lab) S := by
  have e1 : L2.atI (lines.map Row.d) (i : Int) = some r.d := e_atS (by simp [hi])
  unfold m_label_of b_label_of joinD tokD rowsD
  rcases h.is with ⟨rfl, _, _⟩ | ⟨rfl, _, _⟩
  · rw [hl.1 rfl] at e1
    simp [e1, Row.d]
  · rw [hl.2 rfl] at e1
    simp [e1, Row.d]
theorem same_kind (k : Kd) (here there many : Nat) (h : there < many) (S : Sto) : m__law_same_kind [.str k.s, .int (here : Int), .int (there : Int), .int (many : Int)] S = .ok (if pointI here there many k < lowK k then .non else .tup [.str k.s, .int (pointI here there many k)]) S := by
  unfold m__law_same_kind b__law_same_kind
  cases k with
  | num =>
    have : ¬ (there : Int) < 0 := by omega
    simp [Kd.s, pointI, lowK, this]
  | fin =>
    have : ¬ (many : Int) - 1 - there < 0 := by omega
    simp [Kd.s, pointI, lowK, this]
  | abv =>
    by_cases z : (there : Int) < here
    · have z2 : ¬ (here : Int) - there < 1 := by omega
      simp [Kd.s, pointI, lowK, z2, -Int.ofNat_lt]
      simp [z, z2, -Int.ofNat_lt]
    · have z2 : (here : Int) - there < 1 := by omega
      simp [Kd.s, pointI, lowK, z2, -Int.ofNat_lt]
      simp [z, z2, -Int.ofNat_lt]
  | blw =>
    by_cases z : (here : Int) < there
    · have z2 : ¬ (there : Int) - here < 1 := by omega
      simp [Kd.s, pointI, lowK, z2, -Int.ofNat_lt]
      simp [z, z2, -Int.ofNat_lt]
    · have z2 : (there : Int) - here < 1 := by omega
      simp [Kd.s, pointI, lowK, z2, -Int.ofNat_lt]
      simp [z, z2, -Int.ofNat_lt]
end Pu

/-! text: Q12 -/
set_option Elab.async false
set_option linter.all false
set_option maxRecDepth 100000
set_option maxHeartbeats 4000000
namespace Sm
open PySem PySem.Spec L2
theorem enum_app (b : List D) : ∀ (a : List D) (k : Nat), enumL k (a ++ b) = enumL k a ++ enumL (k + a.length) b
  | [], k => by simp [enumL]
  | x :: a, k => by
    simp only [List.cons_append, enumL, enum_app b a (k + 1), List.length_cons]
    rw [show k + 1 + a.length = k + (a.length + 1) by omega]
@[simp] theorem e_seqL (ds : List D) (S : Sto) : seqM (.lst ds) S = .ok ds S := rfl
end Sm
namespace Pu
open PySem PySem.Spec L2 Sm Wk
structure Due where
  h : Nat
  pl : Nat
  m : Option Nat
  t : Option Nat
def Due.d (d : Due) : D := .tup [.int (d.h : Int), .int (d.pl : Int), natO d.m, natO d.t]
/-- where the step that a pointer means stands after a join -/
def nowP (lines : List Row) (off i : Nat) (p : Pt) : Option Nat := (means lines i p).map (off + ·)
def lateP (w : Ws) (lines : List Row) (off tot i : Nat) (p : Pt) : Pt := keepO w false p ((off + i : Nat) : Int) (nowP lines off i p) (tot : Int)
def duesOf (lines : List Row) (off i : Nat) : Nat → List Pt → List Due
  | _, [] => []
  | k, p :: ps => ⟨off + i, k, means lines i p, nowP lines off i p⟩ :: duesOf lines off i (k + 1) ps
def rowsL (w : Ws) (lines : List Row) (off tot : Nat) : Nat → List Row → List Row
  | _, [] => []
  | s, r :: rs => ⟨r.lab, r.pts.map (lateP w lines off tot s)⟩ :: rowsL w lines off tot (s + 1) rs
def duesL (lines : List Row) (off : Nat) : Nat → List Row → List Due
  | _, [] => []
  | s, r :: rs => duesOf lines off s 0 r.pts ++ duesL lines off (s + 1) rs
def joinR (w : Ws) (a b : List Row) : List Row := rowsL w a 0 (a.length + b.length) 0 a ++ rowsL w b a.length (a.length + b.length) 0 b
def duesJ (a b : List Row) : List Due := duesL a 0 0 a ++ duesL b a.length 0 b
def ptAt (rs : List Row) (h pl : Nat) : Option Pt := rs[h]?.bind fun r => r.pts[pl]?
def Due.lost (late : List Row) (d : Due) : Bool := match ptAt late d.h d.pl with
  | some p => d.m.isSome && (d.t.isNone || decide (means late d.h p ≠ d.t))
  | none => false
def lostJ (w : Ws) (a b : List Row) : List (Nat × Nat) := ((duesJ a b).filter (Due.lost (joinR w a b))).map fun d => (d.h, d.pl)
def spD (s : Nat × Nat) : D := .tup [.int (s.1 : Int), .int (s.2 : Int)]
theorem isN_natO (o : Option Nat) (S : Sto) (c : Bool) : isN c (natO o) S = some (.bl (if o.isSome then c else !c)) := by cases o <;> simp [natO]
theorem ne_natO (a b : Option Nat) (S : Sto) : neD (natO a) (natO b) S = some (.bl (decide (a ≠ b))) := by
  cases a with
  | none => cases b with
    | none => rfl
    | some b => rfl
  | some a => cases b with
    | none => rfl
    | some b =>
      have : ((a : Int) = (b : Int)) = (a = b) := propext ⟨fun h => by omega, fun h => by omega⟩
      simp [natO, this]
theorem duesOf_len (lines : List Row) (off i : Nat) : ∀ (k : Nat) (ps : List Pt), (duesOf lines off i k ps).length = ps.length
  | _, [] => rfl
  | k, p :: ps => by simp [duesOf, duesOf_len lines off i (k + 1) ps]
theorem rowsL_len (w : Ws) (lines : List Row) (off tot : Nat) : ∀ (s : Nat) (rs : List Row), (rowsL w lines off tot s rs).length = rs.length
  | _, [] => rfl
  | s, r :: rs => by simp [rowsL, rowsL_len w lines off tot (s + 1) rs]
theorem joinR_len (w : Ws) (a b : List Row) : (joinR w a b).length = a.length + b.length := by simp [joinR, rowsL_len]
theorem rowsL_get (w : Ws) (lines : List Row) (off tot : Nat) : ∀ (s : Nat) (rs : List Row) (i : Nat), (rowsL w lines off tot s rs)[i]? = rs[i]?.map fun r => ⟨r.lab, r.pts.map (lateP w lines off tot (s + i))⟩
  | _, [], i => by simp [rowsL]
  | s, r :: rs, 0 => by simp [rowsL]
  | s, r :: rs, i + 1 => by
    simp only [rowsL, List.getElem?_cons_succ, rowsL_get w lines off tot (s + 1) rs i]
    rw [show s + 1 + i = s + (i + 1) by omega]
theorem duesOf_mem {lines : List Row} {off i : Nat} : ∀ {k : Nat} {ps : List Pt} {d : Due}, d ∈ duesOf lines off i k ps ↔ ∃ j p, ps[j]? = some p ∧ d = ⟨off + i, k + j, means lines i p, nowP lines off i p⟩
  | k, [], d => by simp [duesOf]
  | k, p :: ps, d => by
    unfold duesOf
    rw [List.mem_cons, duesOf_mem]
    constructor
    · rintro (rfl | ⟨j, q, h, rfl⟩)
      · exact ⟨0, p, rfl, rfl⟩
      · exact ⟨j + 1, q, by simpa using h, by rw [show k + 1 + j = k + (j + 1) by omega]⟩
    · rintro ⟨j, q, h, rfl⟩
      cases j with
      | zero =>
        simp at h
        subst h
        exact .inl rfl
      | succ j => exact .inr ⟨j, q, by simpa using h, by rw [show k + 1 + j = k + (j + 1) by omega]⟩
theorem duesL_mem {lines : List Row} {off : Nat} : ∀ {s : Nat} {rs : List Row} {d : Due}, d ∈ duesL lines off s rs ↔ ∃ i r j p, rs[i]? = some r ∧ r.pts[j]? = some p ∧ d = ⟨off + (s + i), j, means lines (s + i) p, nowP lines off (s + i) p⟩
  | s, [], d => by simp [duesL]
  | s, r :: rs, d => by
    unfold duesL
    rw [List.mem_append, duesOf_mem, duesL_mem]
    constructor
    · rintro (⟨j, p, h, rfl⟩ | ⟨i, r', j, p, h1, h2, rfl⟩)
      · exact ⟨0, r, j, p, rfl, h, by simp⟩
      · exact ⟨i + 1, r', j, p, by simpa using h1, h2, by rw [show s + 1 + i = s + (i + 1) by omega]⟩
    · rintro ⟨i, r', j, p, h1, h2, rfl⟩
      cases i with
      | zero =>
        simp at h1
        subst h1
        exact .inl ⟨j, p, h2, by simp⟩
      | succ i => exact .inr ⟨i, r', j, p, by simpa using h1, h2, by rw [show s + 1 + i = s + (i + 1) by omega]⟩
theorem due_ok {w : Ws} {a b : List Row} {d : Due} (h : d ∈ duesJ a b) : ∃ p, ptAt (joinR w a b) d.h d.pl = some p := by
  unfold duesJ at h
  rcases List.mem_append.mp h with h | h
  · obtain ⟨i, r, j, p, h1, h2, rfl⟩ := duesL_mem.mp h
    have hi := (List.getElem?_eq_some_iff.mp h1).1
    refine ⟨lateP w a 0 (a.length + b.length) (0 + i) p, ?_⟩
    unfold ptAt joinR
    dsimp only
    rw [show 0 + (0 + i) = i by omega, List.getElem?_append_left (by rw [rowsL_len]; exact hi), rowsL_get, h1]
    simp [h2]
  · obtain ⟨i, r, j, p, h1, h2, rfl⟩ := duesL_mem.mp h
    have hi := (List.getElem?_eq_some_iff.mp h1).1
    refine ⟨lateP w b a.length (a.length + b.length) (0 + i) p, ?_⟩
    unfold ptAt joinR
    dsimp only
    rw [show a.length + (0 + i) = a.length + i by omega, List.getElem?_append_right (by rw [rowsL_len]; omega), rowsL_len, rowsL_get, show a.length + i - a.length = i by omega, h1]
    simp [h2]
def edE (w : Ws) (a : List Row) (e : D) (fd : List D) (x3 x4 later due x8 x9 ptrs x12 x13 x14 x15 x16 x11 : Slot) : Sm.Env :=
  [.val w.d, .val (rowsD a), .val e, x3, x4, .val (.lst fd), later, due, x8, x9, ptrs, x11, x12, x13, x14, x15, x16]
theorem point_le {here there many : Int} (h1 : 0 ≤ here ∧ here ≤ 9) (h2 : 0 ≤ there ∧ there < many) (h3 : many ≤ 10) (k : Kd) : pointI here there many k ≤ 9 := by
  cases k <;> simp only [pointI] <;> omega
theorem nowP_lt {lines : List Row} {off i t : Nat} {p : Pt} (h : nowP lines off i p = some t) : ∃ m, means lines i p = some m ∧ t = off + m ∧ m < lines.length := by
  unfold nowP at h
  cases hm : means lines i p with
  | none => rw [hm] at h; cases h
  | some m =>
    rw [hm] at h
    cases h
    exact ⟨m, rfl, rfl, means_lt hm⟩
section
variable (w : Ws) (a b lines : List Row) (off i : Nat) (kd : Str) (hP : Part a.length b.length kd off lines.length) (htot : a.length + b.length ≤ 10) (hi : i < lines.length)
include hP htot hi
theorem off_le : off + i < a.length + b.length ∧ off + lines.length ≤ a.length + b.length := by
  rcases hP.is with ⟨_, h1, h2⟩ | ⟨_, h1, h2⟩ <;> omega
theorem ed_in_ok (later x11 x14 : Slot) (S : Sto) : ∀ (ps : List Pt) (done : List Pt) (due : List Due) (x12 x13 x16 : Slot), done.length + ps.length ≤ 100 → due.length + ps.length ≤ 1000 →
    ∃ y12 y13 y16, Sm.forM (.one 16) lp_edited_1 (ps.map Pt.d) (edE w a (joinD b) (foundD a.length b.length) .no .no later (.own (due.map Due.d)) (.val (.int ((off + i : Nat) : Int))) (.val (tokD kd i)) (.own (done.map Pt.d)) x12 x13 x14 (.val (rowsD lines)) x16 x11) S
      = .ok (.nx (edE w a (joinD b) (foundD a.length b.length) .no .no later (.own ((due ++ duesOf lines off i done.length ps).map Due.d)) (.val (.int ((off + i : Nat) : Int))) (.val (tokD kd i)) (.own ((done ++ ps.map (lateP w lines off (a.length + b.length) i)).map Pt.d)) y12 y13 x14 (.val (rowsD lines)) y16 x11)) S
  | [], done, due, x12, x13, x16, _, _ => ⟨x12, x13, x16, by simp [duesOf]⟩
  | p :: ps, done, due, x12, x13, x16, h1, h2 => by
    simp only [List.length_cons] at h1 h2
    have hoff := off_le a b lines off i kd hP htot hi
    obtain ⟨y12, y13, y16, ih⟩ := ed_in_ok later x11 x14 S ps (done ++ [lateP w lines off (a.length + b.length) i p]) (due ++ [Due.mk (off + i) done.length (means lines i p) (nowP lines off i p)]) (.val (natO (means lines i p))) (.val (natO (nowP lines off i p))) (.val p.d) (by simp; omega) (by simp; omega)
    refine ⟨y12, y13, y16, ?_⟩
    rw [List.map_cons, e_forC]
    have hm := meaning lines i p
    have hfl := found_len a.length b.length
    have hk : ∀ S, m_kept [w.d, joinD b, p.d, .int ((off + i : Nat) : Int), natO (nowP lines off i p), .int ((a.length + b.length : Nat) : Int)] S = .ok (lateP w lines off (a.length + b.length) i p).d S := fun S => by
      have := kept w "join" [rowsD b] p ((off + i : Nat) : Int) (nowP lines off i p) ((a.length + b.length : Nat) : Int) (fun t k ht => by
        obtain ⟨m, _, rfl, hm⟩ := nowP_lt ht
        exact point_le (by omega) (by omega) (by omega) k) S
      unfold lateP
      have e : (decide (("join" : Str) = "move")) = false := by simp
      rw [e] at this
      exact this
    have c1 : due.length < 100000 := by omega
    have c2 : done.length < 100000 := by omega
    have key : lp_edited_1 (edE w a (joinD b) (foundD a.length b.length) .no .no later (.own (due.map Due.d)) (.val (.int ((off + i : Nat) : Int))) (.val (tokD kd i)) (.own (done.map Pt.d)) x12 x13 x14 (.val (rowsD lines)) (.val p.d) x11) S =
        .ok (.nx (edE w a (joinD b) (foundD a.length b.length) .no .no later (.own ((due ++ [Due.mk (off + i) done.length (means lines i p) (nowP lines off i p)]).map Due.d)) (.val (.int ((off + i : Nat) : Int))) (.val (tokD kd i)) (.own ((done ++ [lateP w lines off (a.length + b.length) i p]).map Pt.d)) (.val (natO (means lines i p))) (.val (natO (nowP lines off i p))) x14 (.val (rowsD lines)) (.val p.d) x11)) S := by
      unfold lp_edited_1 edE
      cases hmi : means lines i p with
      | none =>
        have hw : nowP lines off i p = none := by unfold nowP; rw [hmi]; rfl
        rw [hw] at hk ⊢
        simp only [hmi, natO_n] at hm hk
        simp [tokD, hm, hk, hfl, c1, c2, Due.d, -Int.natCast_add]
      | some m =>
        have hw : nowP lines off i p = some (off + m) := by unfold nowP; rw [hmi]; rfl
        rw [hw] at hk ⊢
        have hs := standing hP (means_lt hmi)
        simp only [hmi, natO_s] at hm hk
        simp [tokD, hm, hs, hk, hfl, c1, c2, Due.d, -Int.natCast_add]
    have eb : bindD (.one 16) p.d (edE w a (joinD b) (foundD a.length b.length) .no .no later (.own (due.map Due.d)) (.val (.int ((off + i : Nat) : Int))) (.val (tokD kd i)) (.own (done.map Pt.d)) x12 x13 x14 (.val (rowsD lines)) x16 x11) = some (edE w a (joinD b) (foundD a.length b.length) .no .no later (.own (due.map Due.d)) (.val (.int ((off + i : Nat) : Int))) (.val (tokD kd i)) (.own (done.map Pt.d)) x12 x13 x14 (.val (rowsD lines)) (.val p.d) x11) := rfl
    rw [eb]
    dsimp only
    rw [key]
    dsimp only
    rw [ih]
    simp [duesOf]
end
end Pu

/-! text: Q13 -/
set_option Elab.async false
set_option linter.all false
set_option maxRecDepth 100000
set_option maxHeartbeats 4000000
namespace Pu
open PySem PySem.Spec L2 Sm Wk
theorem duesL_len (lines : List Row) (off : Nat) (hpt : ∀ r ∈ lines, r.pts.length ≤ 2) : ∀ (s : Nat) (rs : List Row), (∀ r ∈ rs, r.pts.length ≤ 2) → (duesL lines off s rs).length ≤ 2 * rs.length
  | _, [], _ => by simp [duesL]
  | s, r :: rs, h => by
    have h1 := h r List.mem_cons_self
    have h2 := duesL_len lines off hpt (s + 1) rs fun r hr => h r (List.mem_cons_of_mem _ hr)
    simp only [duesL, List.length_append, duesOf_len, List.length_cons]
    omega
section
variable (w : Ws) (a b lines : List Row) (off : Nat) (kd : Str) (hP : Part a.length b.length kd off lines.length) (htot : a.length + b.length ≤ 10) (hl : (kd = "old" → lines = a) ∧ (kd = "joined" → lines = b)) (hpt : ∀ r ∈ lines, r.pts.length ≤ 2)
include hP htot hl hpt
theorem ed_part_ok (tl : List D) (x11 x14 : Slot) (S : Sto) : ∀ (rs : List Row) (s : Nat) (later : List Row) (due : List Due) (x8 x9 x10 x12 x13 x15 x16 : Slot), (∀ i : Nat, lines[s + i]? = rs[i]?) → later.length + rs.length ≤ 100 → due.length + 2 * rs.length ≤ 100 →
    ∃ y8 y9 y10 y12 y13 y15 y16, Sm.forM (.tup [8, 9]) lp_edited_2 (enumL (off + s) (partD kd s rs.length) ++ tl) (edE w a (joinD b) (foundD a.length b.length) .no .no (.own (later.map Row.d)) (.own (due.map Due.d)) x8 x9 x10 x12 x13 x14 x15 x16 x11) S
      = Sm.forM (.tup [8, 9]) lp_edited_2 tl (edE w a (joinD b) (foundD a.length b.length) .no .no (.own ((later ++ rowsL w lines off (a.length + b.length) s rs).map Row.d)) (.own ((due ++ duesL lines off s rs).map Due.d)) y8 y9 y10 y12 y13 x14 y15 y16 x11) S
  | [], s, later, due, x8, x9, x10, x12, x13, x15, x16, _, _, _ => ⟨x8, x9, x10, x12, x13, x15, x16, by simp [rowsL, duesL, partD, enumL]⟩
  | r :: rs, s, later, due, x8, x9, x10, x12, x13, x15, x16, hv, h1, h2 => by
    simp only [List.length_cons] at h1 h2
    have hr : lines[s]? = some r := by simpa using hv 0
    have hs : s < lines.length := (List.getElem?_eq_some_iff.mp hr).1
    have hp2 := hpt r (List.mem_of_getElem? hr)
    have c6 : later.length < 100000 := by omega
    obtain ⟨y12, y13, y16, hin⟩ := ed_in_ok w a b lines off s kd hP htot hs (.own (later.map Row.d)) x11 x14 S r.pts [] due x12 x13 x16 (by simp; omega) (by omega)
    have e1 : L2.atI (lines.map Row.d) (s : Int) = some r.d := e_atS (by simp [hr])
    have hlab := label_of hP hl hr
    have hlines : (kd = "old" ∧ lines = a) ∨ (kd = "joined" ∧ lines = b) := by
      rcases hP.is with ⟨h, _⟩ | ⟨h, _⟩
      · exact .inl ⟨h, hl.1 h⟩
      · exact .inr ⟨h, hl.2 h⟩
    have step : lp_edited_2 (edE w a (joinD b) (foundD a.length b.length) .no .no (.own (later.map Row.d)) (.own (due.map Due.d)) (.val (.int ((off + s : Nat) : Int))) (.val (tokD kd s)) x10 x12 x13 x14 x15 x16 x11) S =
        .ok (.nx (edE w a (joinD b) (foundD a.length b.length) .no .no (.own ((later ++ [Row.mk r.lab (r.pts.map (lateP w lines off (a.length + b.length) s))]).map Row.d)) (.own ((due ++ duesOf lines off s 0 r.pts).map Due.d)) (.val (.int ((off + s : Nat) : Int))) (.val (tokD kd s)) (.own ((r.pts.map (lateP w lines off (a.length + b.length) s)).map Pt.d)) y12 y13 x14 (.val (rowsD lines)) y16 x11)) S := by
      unfold lp_edited_2
      simp only [edE, rowsD, joinD, tokD, List.map_nil, List.nil_append, List.length_nil] at hin hlab
      simp only [edE, rowsD, joinD, tokD]
      rcases hlines with ⟨rfl, rfl⟩ | ⟨rfl, rfl⟩
      · simp [e1, Row.d, hin, hlab, c6, -Int.natCast_add]
      · simp [e1, Row.d, hin, hlab, c6, -Int.natCast_add]
    have hd : (duesOf lines off s 0 r.pts).length ≤ 2 := by rw [duesOf_len]; exact hp2
    obtain ⟨z8, z9, z10, z12, z13, z15, z16, ih⟩ := ed_part_ok tl x11 x14 S rs (s + 1) (later ++ [Row.mk r.lab (r.pts.map (lateP w lines off (a.length + b.length) s))]) (due ++ duesOf lines off s 0 r.pts) (.val (.int ((off + s : Nat) : Int))) (.val (tokD kd s)) (.own ((r.pts.map (lateP w lines off (a.length + b.length) s)).map Pt.d)) y12 y13 (.val (rowsD lines)) y16 (fun i => by rw [show s + 1 + i = s + (i + 1) by omega, hv (i + 1)]; simp) (by simp; omega) (by simp; omega)
    refine ⟨z8, z9, z10, z12, z13, z15, z16, ?_⟩
    have ep : partD kd s (r :: rs).length = tokD kd s :: partD kd (s + 1) rs.length := by
      unfold partD
      rw [List.length_cons, List.range'_succ]
      rfl
    rw [ep]
    unfold enumL
    rw [List.cons_append, e_forC]
    have eb : bindD (.tup [8, 9]) (.tup [.int ((off + s : Nat) : Int), tokD kd s]) (edE w a (joinD b) (foundD a.length b.length) .no .no (.own (later.map Row.d)) (.own (due.map Due.d)) x8 x9 x10 x12 x13 x14 x15 x16 x11) = some (edE w a (joinD b) (foundD a.length b.length) .no .no (.own (later.map Row.d)) (.own (due.map Due.d)) (.val (.int ((off + s : Nat) : Int))) (.val (tokD kd s)) x10 x12 x13 x14 x15 x16 x11) := rfl
    rw [eb]
    dsimp only
    rw [step]
    dsimp only
    rw [show off + s + 1 = off + (s + 1) by omega, ih]
    simp [rowsL, duesL]
end
theorem ptAt_d {late : List Row} {h pl : Nat} {p : Pt} (hp : ptAt late h pl = some p) : ∃ r : Row, L2.atI (late.map Row.d) (h : Int) = some (.tup [labD r.lab, .tup (r.pts.map Pt.d)]) ∧ L2.atI (r.pts.map Pt.d) (pl : Int) = some p.d := by
  unfold ptAt at hp
  obtain ⟨r, h1, h2⟩ := Option.bind_eq_some_iff.mp hp
  exact ⟨r, e_atS (by simp [h1, Row.d]), e_atS (by simp [h2])⟩
theorem ed_lost_ok (w : Ws) (a late : List Row) (e : D) (fd : List D) (later dueS x9 x10 x15 x16 : Slot) (S : Sto) : ∀ (ds : List Due) (lost : List (Nat × Nat)) (x8 x11 x12 x13 x14 : Slot), (∀ d ∈ ds, ∃ p, ptAt late d.h d.pl = some p) → lost.length + ds.length ≤ 1000 →
    ∃ y8 y11 y12 y13 y14, Sm.forM (.tup [8, 11, 12, 13]) lp_edited_0 (ds.map Due.d) (edE w a e fd (.val (rowsD late)) (.own (lost.map spD)) later dueS x8 x9 x10 x12 x13 x14 x15 x16 x11) S
      = .ok (.nx (edE w a e fd (.val (rowsD late)) (.own ((lost ++ (ds.filter (Due.lost late)).map fun d => (d.h, d.pl)).map spD)) later dueS y8 x9 x10 y12 y13 y14 x15 x16 y11)) S
  | [], lost, x8, x11, x12, x13, x14, _, _ => ⟨x8, x11, x12, x13, x14, by simp⟩
  | d :: ds, lost, x8, x11, x12, x13, x14, hv, hl => by
    simp only [List.length_cons] at hl
    obtain ⟨p, hp⟩ := hv d List.mem_cons_self
    obtain ⟨r, e1, e2⟩ := ptAt_d hp
    have hm := meaning late d.h p
    have c4 : lost.length < 100000 := by omega
    have nn := ne_natO (means late d.h p) d.t
    have i1 := isN_natO d.m
    have i2 := isN_natO d.t
    have hlost : Due.lost late d = (d.m.isSome && (d.t.isNone || decide (means late d.h p ≠ d.t))) := by
      unfold Due.lost; rw [hp]
    have hstep : lp_edited_0 (edE w a e fd (.val (rowsD late)) (.own (lost.map spD)) later dueS (.val (.int (d.h : Int))) x9 x10 (.val (natO d.m)) (.val (natO d.t)) x14 x15 x16 (.val (.int (d.pl : Int)))) S =
        .ok (.nx (edE w a e fd (.val (rowsD late)) (.own ((if Due.lost late d = true then lost ++ [(d.h, d.pl)] else lost).map spD)) later dueS (.val (.int (d.h : Int))) x9 x10 (.val (natO d.m)) (.val (natO d.t)) (.val (natO (means late d.h p))) x15 x16 (.val (.int (d.pl : Int))))) S := by
      unfold lp_edited_0
      simp only [edE, rowsD] at hm ⊢
      rw [hlost]
      cases hdm : d.m with
      | none =>
        rw [hdm] at i1
        simp [e1, e2, hm, i1]
      | some m =>
        rw [hdm] at i1
        cases hdt : d.t with
        | none =>
          rw [hdt] at i2
          simp [e1, e2, hm, i1, i2, c4, spD]
        | some t =>
          rw [hdt] at i2 nn
          by_cases hne : means late d.h p = some t
          · have nn' : ∀ S, neD (natO (means late d.h p)) (natO (some t)) S = some (.bl false) := fun S => by rw [nn]; simp [hne]
            simp only [natO_s] at nn'
            simp [e1, e2, hm, i1, i2, nn', c4, spD, hne]
          · have nn' : ∀ S, neD (natO (means late d.h p)) (natO (some t)) S = some (.bl true) := fun S => by rw [nn]; simp [hne]
            simp only [natO_s] at nn'
            simp [e1, e2, hm, i1, i2, nn', c4, spD, hne]
    obtain ⟨y8, y11, y12, y13, y14, ih⟩ := ed_lost_ok w a late e fd later dueS x9 x10 x15 x16 S ds (if Due.lost late d = true then lost ++ [(d.h, d.pl)] else lost) (.val (.int (d.h : Int))) (.val (.int (d.pl : Int))) (.val (natO d.m)) (.val (natO d.t)) (.val (natO (means late d.h p))) (fun u hu => hv u (List.mem_cons_of_mem _ hu)) (by split <;> (try simp) <;> omega)
    refine ⟨y8, y11, y12, y13, y14, ?_⟩
    rw [List.map_cons, e_forC]
    have eb : bindD (.tup [8, 11, 12, 13]) d.d (edE w a e fd (.val (rowsD late)) (.own (lost.map spD)) later dueS x8 x9 x10 x12 x13 x14 x15 x16 x11) = some (edE w a e fd (.val (rowsD late)) (.own (lost.map spD)) later dueS (.val (.int (d.h : Int))) x9 x10 (.val (natO d.m)) (.val (natO d.t)) x14 x15 x16 (.val (.int (d.pl : Int)))) := rfl
    rw [eb]
    dsimp only
    rw [hstep]
    dsimp only
    rw [ih]
    by_cases hL : Due.lost late d = true <;> simp [hL]
theorem duesJ_len (a b : List Row) (h1 : ∀ r ∈ a, r.pts.length ≤ 2) (h2 : ∀ r ∈ b, r.pts.length ≤ 2) : (duesJ a b).length ≤ 2 * (a.length + b.length) := by
  have e1 := duesL_len a 0 h1 0 a h1
  have e2 := duesL_len b a.length h2 0 b h2
  unfold duesJ
  rw [List.length_append]
  omega
theorem edited (w : Ws) (a b : List Row) (htot : a.length + b.length ≤ 10) (h1 : ∀ r ∈ a, r.pts.length ≤ 2) (h2 : ∀ r ∈ b, r.pts.length ≤ 2) (S : Sto) : m_edited [w.d, rowsD a, joinD b] S = .ok (.tup [rowsD (joinR w a b), .lst ((lostJ w a b).map spD)]) S := by
  have hs := sources a b (by omega) (by omega)
  obtain ⟨y8, y9, y10, y12, y13, y15, y16, hA⟩ := ed_part_ok w a b a 0 "old" (part_old _ _) htot ⟨fun _ => rfl, fun h => by simp at h⟩ h1 (enumL a.length (partD "joined" 0 b.length)) .no .no S a 0 [] [] .no .no .no .no .no .no .no (fun i => by simp) (by simp; omega) (by simp; omega)
  have ha2 := duesL_len a 0 h1 0 a h1
  obtain ⟨x8, x9, x10, x12, x13, x15, x16, hB⟩ := ed_part_ok w a b b a.length "joined" (part_jn _ _) htot ⟨fun h => by simp at h, fun _ => rfl⟩ h2 [] .no .no S b 0 (rowsL w a 0 (a.length + b.length) 0 a) (duesL a 0 0 a) y8 y9 y10 y12 y13 y15 y16 (fun i => by simp) (by rw [rowsL_len]; omega) (by omega)
  have hdl := duesJ_len a b h1 h2
  obtain ⟨z8, z11, z12, z13, z14, hC⟩ := ed_lost_ok w a (joinR w a b) (joinD b) (foundD a.length b.length) (.own ((joinR w a b).map Row.d)) (.val (.lst ((duesJ a b).map Due.d))) x9 x10 x15 x16 S (duesJ a b) [] x8 .no x12 x13 .no (fun d hd => due_ok hd) (by simp; omega)
  simp only [List.nil_append, Nat.zero_add, Nat.add_zero, List.append_nil, e_forN] at hA hB hC
  have en : enumL 0 (foundD a.length b.length) = enumL 0 (partD "old" 0 a.length) ++ enumL a.length (partD "joined" 0 b.length) := by
    unfold foundD
    rw [enum_app]
    simp [partD]
  rw [hB] at hA
  unfold m_edited
  rw [n_edited]
  simp only [edE, rowsD, joinR, duesJ, lostJ, List.map_nil] at hA hC hs
  simp only [rowsD, joinR, lostJ, duesJ]
  simp [hs, en, hA, frzS, frzE, -List.map_append]
  simp [hC, -List.map_append]
end Pu

/-! text: Q14 -/
set_option Elab.async false
set_option linter.all false
set_option maxRecDepth 100000
set_option maxHeartbeats 4000000
namespace Pu
open PySem PySem.Spec L2 Sm Wk
def leE (w : Ws) (a : List Row) (e : D) (fd : List D) (x3 x4 later due x8 x9 x10 x11 x12 x13 x14 x15 x16 x17 x18 : Slot) : Sm.Env :=
  [.val w.d, .val (rowsD a), .val e, x3, x4, .val (.lst fd), later, due, x8, x9, x10, x11, x12, x13, x14, x15, x16, x17, x18]
theorem kinds_idx : idxD (.lst [.str "number", .str "above", .str "below", .str "end"]) (.str "number") = some (.int 0) ∧ idxD (.lst [.str "number", .str "above", .str "below", .str "end"]) (.str "above") = some (.int 1) ∧ idxD (.lst [.str "number", .str "above", .str "below", .str "end"]) (.str "below") = some (.int 2) ∧ idxD (.lst [.str "number", .str "above", .str "below", .str "end"]) (.str "end") = some (.int 3) := by
  have ix := fun z => idx_strs KINDS_L z
  simp only [List.map_cons, List.map_nil] at ix
  obtain ⟨k1, k2, k3, k4⟩ := kinds_ix
  simp [ix, k1, k2, k3, k4]
def kindsO : Slot := .own [.str "number", .str "above", .str "below", .str "end"]
section
variable (w : Ws) (a b lines : List Row) (off i : Nat) (kd : Str) (hP : Part a.length b.length kd off lines.length) (htot : a.length + b.length ≤ 10) (hi : i < lines.length)
include hP htot hi
theorem law_in_step (x4 later x10 : Slot) (S : Sto) (p : Pt) (done : List Pt) (due : List Due) (x11 x12 x15 x16 x17 x18 : Slot) (c1 : due.length < 100000) (c2 : done.length < 100000) :
    ∃ y15 y16 y17 y18, lp__law_edited_1 (leE w a (joinD b) (foundD a.length b.length) (.val (.int ((off + i : Nat) : Int))) x4 later (.own (due.map Due.d)) (.val (rowsD lines)) (.val p.d) x10 x11 x12 (.val (tokD kd i)) (.own (done.map Pt.d)) x15 x16 x17 x18) S
      = .ok (.nx (leE w a (joinD b) (foundD a.length b.length) (.val (.int ((off + i : Nat) : Int))) x4 later (.own ((due ++ [Due.mk (off + i) done.length (means lines i p) (nowP lines off i p)]).map Due.d)) (.val (rowsD lines)) (.val p.d) x10 (.val (natO (means lines i p))) (.val (natO (nowP lines off i p))) (.val (tokD kd i)) (.own ((done ++ [lateP w lines off (a.length + b.length) i p]).map Pt.d)) y15 y16 y17 y18)) S := by
  have hoff := off_le a b lines off i kd hP htot hi
  have hm := law_meant (isRowsT lines) (by omega) i p
  have hfl := found_len a.length b.length
  obtain ⟨k1, k2, k3, k4⟩ := kinds_idx
  unfold lp__law_edited_1 leE
  have inN := in_found_non a.length b.length
  cases hmi : means lines i p with
  | none =>
    have hw : nowP lines off i p = none := by unfold nowP; rw [hmi]; rfl
    have hlt : lateP w lines off (a.length + b.length) i p = p := by
      unfold lateP; rw [hw]; cases p <;> rfl
    rw [hw, hlt]
    simp only [hmi, natO_n] at hm
    cases p with
    | lab l =>
      simp only [Pt.d] at hm
      exact ⟨.val .non, .val (Pt.lab l).d, kindsO, .val (.str "raw"), by simp [Pt.d, tokD, hm, inN, c1, c2, Due.d, kindsO, joinD, hfl, -Int.natCast_add]⟩
    | «at» k n =>
      simp only [Pt.d] at hm
      refine ⟨.val .non, .val (Pt.at k n).d, kindsO, .val (.str (w.of k)), ?_⟩
      cases k <;> (simp only [Kd.s] at hm; simp [Pt.d, Kd.s, tokD, hm, inN, c1, c2, Due.d, kindsO, joinD, hfl, k1, k2, k3, k4, Ws.d, Ws.of, -Int.natCast_add])
  | some m =>
    have hml := means_lt hmi
    have hw : nowP lines off i p = some (off + m) := by unfold nowP; rw [hmi]; rfl
    have inF := in_found hP hml
    have ixF := idx_found hP hml
    have hlt : lateP w lines off (a.length + b.length) i p = match p with
      | .lab l => .lab l
      | .at k n => keepP (w.of k) false k n ((off + i : Nat) : Int) ((off + m : Nat) : Int) (a.length + b.length : Nat) := by
      unfold lateP; rw [hw]; cases p <;> rfl
    rw [hw, hlt]
    simp only [hmi, natO_s] at hm
    cases p with
    | lab l =>
      simp only [Pt.d] at hm
      exact ⟨.val (.tup [.str kd, .int (m : Int), .bl false]), .val (Pt.lab l).d, kindsO, .val (.str "raw"), by simp [Pt.d, tokD, hm, inF, ixF, c1, c2, Due.d, kindsO, joinD, hfl, -Int.natCast_add]⟩
    | «at» k n =>
      simp only [Pt.d] at hm
      have sk := fun S => same_kind k (off + i) (off + m) (a.length + b.length) (by omega) S
      dsimp only
      obtain ⟨z, hz⟩ : ∃ z, keepP (w.of k) false k n ((off + i : Nat) : Int) ((off + m : Nat) : Int) (a.length + b.length : Nat) = z := ⟨_, rfl⟩
      refine ⟨.val (.tup [.str kd, .int (m : Int), .bl false]), .val z.d, kindsO, .val (.str (w.of k)), ?_⟩
      rw [hz]
      by_cases hlow : pointI ((off + i : Nat) : Int) ((off + m : Nat) : Int) ((a.length + b.length : Nat) : Int) k < lowK k
      · have hz' : z = .at k n := by
          rw [← hz]; unfold keepP
          split <;> first | rfl | exact if_pos hlow
        rw [if_pos hlow] at sk
        rw [hz']
        cases k <;> (simp only [Kd.s] at hm sk; simp [Pt.d, Kd.s, tokD, hm, inF, ixF, sk, c1, c2, Due.d, kindsO, joinD, hfl, k1, k2, k3, k4, Ws.d, Ws.of, -Int.natCast_add])
      · rw [if_neg hlow] at sk
        by_cases hraw : w.of k = "raw"
        · have hz' : z = .at k n := by
            rw [← hz]; unfold keepP
            exact if_pos (.inl hraw)
          rw [hz']
          cases k <;> (simp only [Kd.s] at hm sk; simp only [Ws.of] at hraw; simp [Pt.d, Kd.s, tokD, hm, inF, ixF, sk, c1, c2, Due.d, kindsO, joinD, hfl, k1, k2, k3, k4, Ws.d, Ws.of, hraw, -Int.natCast_add])
        · have hz' : z = .at k (pointI ((off + i : Nat) : Int) ((off + m : Nat) : Int) ((a.length + b.length : Nat) : Int) k) := by
            rw [← hz]; unfold keepP
            rw [if_neg (by rintro (z | z); exact hraw z; exact absurd z.2 (by decide)), if_neg hlow]
          rw [hz']
          by_cases hsh : w.of k = "shift"
          · cases k <;> (simp only [Kd.s] at hm sk; simp only [Ws.of] at hraw hsh; simp [Pt.d, Kd.s, tokD, hm, inF, ixF, sk, c1, c2, Due.d, kindsO, joinD, hfl, k1, k2, k3, k4, Ws.d, Ws.of, hraw, hsh, -Int.natCast_add])
          · cases k <;> (simp only [Kd.s] at hm sk; simp only [Ws.of] at hraw hsh; simp [Pt.d, Kd.s, tokD, hm, inF, ixF, sk, c1, c2, Due.d, kindsO, joinD, hfl, k1, k2, k3, k4, Ws.d, Ws.of, hraw, hsh, -Int.natCast_add])
end
end Pu

/-! text: Q15 -/
set_option Elab.async false
set_option linter.all false
set_option maxRecDepth 100000
set_option maxHeartbeats 4000000
namespace Sm
theorem rng_cons (lo : Int) (n : Nat) : rng lo (n + 1) = .int lo :: rng (lo + 1) n := by
  unfold rng
  rw [List.range_succ_eq_map, List.map_cons, List.map_map]
  congr 1
  · simp
  · apply List.map_congr_left
    intro i _
    show D.int (lo + ((i + 1 : Nat) : Int)) = D.int (lo + 1 + i)
    congr 1
    omega
theorem rng_app (lo : Int) (m : Nat) : ∀ (n : Nat) (lo : Int), rng lo (n + m) = rng lo n ++ rng (lo + n) m
  | 0, lo => by simp [rng]
  | n + 1, lo => by
    rw [show n + 1 + m = (n + m) + 1 by omega, rng_cons, rng_cons, rng_app lo m n (lo + 1), List.cons_append]
    rw [show lo + 1 + (n : Int) = lo + ((n + 1 : Nat) : Int) by omega]
end Sm
namespace Pu
open PySem PySem.Spec L2 Sm Wk
theorem law_at {v : D} {rs : List Row} (hv : IsRows v rs) (hl : rs.length ≤ 1000) {h pl : Nat} {p : Pt} (hp : ptAt rs h pl = some p) (S : Sto) : m__law_at [v, .tup [.int (h : Int), .int (pl : Int)]] S = .ok (natO (means rs h p)) S := by
  obtain ⟨r, e1, e2⟩ := ptAt_d hp
  have hX := hv.ix
  have hm := law_meant hv hl h p
  unfold m__law_at b__law_at
  simp [hX, e1, e2, hm]
section
variable (w : Ws) (a b lines : List Row) (off i : Nat) (kd : Str) (hP : Part a.length b.length kd off lines.length) (htot : a.length + b.length ≤ 10) (hi : i < lines.length)
include hP htot hi
theorem law_in_ok (x4 later x10 : Slot) (S : Sto) : ∀ (ps : List Pt) (done : List Pt) (due : List Due) (x9 x11 x12 x15 x16 x17 x18 : Slot), done.length + ps.length ≤ 100 → due.length + ps.length ≤ 1000 →
    ∃ y9 y11 y12 y15 y16 y17 y18, Sm.forM (.one 9) lp__law_edited_1 (ps.map Pt.d) (leE w a (joinD b) (foundD a.length b.length) (.val (.int ((off + i : Nat) : Int))) x4 later (.own (due.map Due.d)) (.val (rowsD lines)) x9 x10 x11 x12 (.val (tokD kd i)) (.own (done.map Pt.d)) x15 x16 x17 x18) S
      = .ok (.nx (leE w a (joinD b) (foundD a.length b.length) (.val (.int ((off + i : Nat) : Int))) x4 later (.own ((due ++ duesOf lines off i done.length ps).map Due.d)) (.val (rowsD lines)) y9 x10 y11 y12 (.val (tokD kd i)) (.own ((done ++ ps.map (lateP w lines off (a.length + b.length) i)).map Pt.d)) y15 y16 y17 y18)) S
  | [], done, due, x9, x11, x12, x15, x16, x17, x18, _, _ => ⟨x9, x11, x12, x15, x16, x17, x18, by simp [duesOf]⟩
  | p :: ps, done, due, x9, x11, x12, x15, x16, x17, x18, h1, h2 => by
    simp only [List.length_cons] at h1 h2
    obtain ⟨z15, z16, z17, z18, key⟩ := law_in_step w a b lines off i kd hP htot hi x4 later x10 S p done due x11 x12 x15 x16 x17 x18 (by omega) (by omega)
    obtain ⟨y9, y11, y12, y15, y16, y17, y18, ih⟩ := law_in_ok x4 later x10 S ps (done ++ [lateP w lines off (a.length + b.length) i p]) (due ++ [Due.mk (off + i) done.length (means lines i p) (nowP lines off i p)]) (.val p.d) (.val (natO (means lines i p))) (.val (natO (nowP lines off i p))) z15 z16 z17 z18 (by simp; omega) (by simp; omega)
    refine ⟨y9, y11, y12, y15, y16, y17, y18, ?_⟩
    rw [List.map_cons, e_forC]
    have eb : bindD (.one 9) p.d (leE w a (joinD b) (foundD a.length b.length) (.val (.int ((off + i : Nat) : Int))) x4 later (.own (due.map Due.d)) (.val (rowsD lines)) x9 x10 x11 x12 (.val (tokD kd i)) (.own (done.map Pt.d)) x15 x16 x17 x18) = some (leE w a (joinD b) (foundD a.length b.length) (.val (.int ((off + i : Nat) : Int))) x4 later (.own (due.map Due.d)) (.val (rowsD lines)) (.val p.d) x10 x11 x12 (.val (tokD kd i)) (.own (done.map Pt.d)) x15 x16 x17 x18) := rfl
    rw [eb]
    dsimp only
    rw [key]
    dsimp only
    rw [ih]
    simp [duesOf]
end
section
variable (w : Ws) (a b lines : List Row) (off : Nat) (kd : Str) (hP : Part a.length b.length kd off lines.length) (htot : a.length + b.length ≤ 10) (hl : (kd = "old" → lines = a) ∧ (kd = "joined" → lines = b)) (hpt : ∀ r ∈ lines, r.pts.length ≤ 2)
include hP htot hl hpt
theorem law_part_ok (tl : List D) (x4 x10 : Slot) (S : Sto) : ∀ (rs : List Row) (s : Nat) (later : List Row) (due : List Due) (x3 x8 x9 x11 x12 x13 x14 x15 x16 x17 x18 : Slot), (∀ i : Nat, lines[s + i]? = rs[i]?) → later.length + rs.length ≤ 100 → due.length + 2 * rs.length ≤ 100 →
    ∃ y3 y8 y9 y11 y12 y13 y14 y15 y16 y17 y18, Sm.forM (.one 3) lp__law_edited_2 (rng ((off + s : Nat) : Int) rs.length ++ tl) (leE w a (joinD b) (foundD a.length b.length) x3 x4 (.own (later.map Row.d)) (.own (due.map Due.d)) x8 x9 x10 x11 x12 x13 x14 x15 x16 x17 x18) S
      = Sm.forM (.one 3) lp__law_edited_2 tl (leE w a (joinD b) (foundD a.length b.length) y3 x4 (.own ((later ++ rowsL w lines off (a.length + b.length) s rs).map Row.d)) (.own ((due ++ duesL lines off s rs).map Due.d)) y8 y9 x10 y11 y12 y13 y14 y15 y16 y17 y18) S
  | [], s, later, due, x3, x8, x9, x11, x12, x13, x14, x15, x16, x17, x18, _, _, _ => ⟨x3, x8, x9, x11, x12, x13, x14, x15, x16, x17, x18, by simp [rowsL, duesL, rng]⟩
  | r :: rs, s, later, due, x3, x8, x9, x11, x12, x13, x14, x15, x16, x17, x18, hv, h1, h2 => by
    simp only [List.length_cons] at h1 h2
    have hr : lines[s]? = some r := by simpa using hv 0
    have hs : s < lines.length := (List.getElem?_eq_some_iff.mp hr).1
    have hp2 := hpt r (List.mem_of_getElem? hr)
    have c6 : later.length < 100000 := by omega
    obtain ⟨y9, y11, y12, y15, y16, y17, y18, hin⟩ := law_in_ok w a b lines off s kd hP htot hs x4 (.own (later.map Row.d)) x10 S r.pts [] due x9 x11 x12 x15 x16 x17 x18 (by simp; omega) (by omega)
    have e1 : L2.atI (lines.map Row.d) (s : Int) = some r.d := e_atS (by simp [hr])
    have e2 : L2.atI (foundD a.length b.length) ((off + s : Nat) : Int) = some (tokD kd s) := e_atS (found_at hP hs)
    have hlines : (kd = "old" ∧ lines = a) ∨ (kd = "joined" ∧ lines = b) := by
      rcases hP.is with ⟨h, _⟩ | ⟨h, _⟩
      · exact .inl ⟨h, hl.1 h⟩
      · exact .inr ⟨h, hl.2 h⟩
    have step : lp__law_edited_2 (leE w a (joinD b) (foundD a.length b.length) (.val (.int ((off + s : Nat) : Int))) x4 (.own (later.map Row.d)) (.own (due.map Due.d)) x8 x9 x10 x11 x12 x13 x14 x15 x16 x17 x18) S =
        .ok (.nx (leE w a (joinD b) (foundD a.length b.length) (.val (.int ((off + s : Nat) : Int))) x4 (.own ((later ++ [Row.mk r.lab (r.pts.map (lateP w lines off (a.length + b.length) s))]).map Row.d)) (.own ((due ++ duesOf lines off s 0 r.pts).map Due.d)) (.val (rowsD lines)) y9 x10 y11 y12 (.val (tokD kd s)) (.own ((r.pts.map (lateP w lines off (a.length + b.length) s)).map Pt.d)) y15 y16 y17 y18)) S := by
      unfold lp__law_edited_2
      simp only [leE, rowsD, joinD, tokD, List.map_nil, List.nil_append, List.length_nil] at hin e2
      simp only [leE, rowsD, joinD, tokD]
      rcases hlines with ⟨rfl, rfl⟩ | ⟨rfl, rfl⟩
      · simp [e1, e2, Row.d, hin, c6, -Int.natCast_add]
      · simp [e1, e2, Row.d, hin, c6, -Int.natCast_add]
    have hd : (duesOf lines off s 0 r.pts).length ≤ 2 := by rw [duesOf_len]; exact hp2
    obtain ⟨z3, z8, z9, z11, z12, z13, z14, z15, z16, z17, z18, ih⟩ := law_part_ok tl x4 x10 S rs (s + 1) (later ++ [Row.mk r.lab (r.pts.map (lateP w lines off (a.length + b.length) s))]) (due ++ duesOf lines off s 0 r.pts) (.val (.int ((off + s : Nat) : Int))) (.val (rowsD lines)) y9 y11 y12 (.val (tokD kd s)) (.own ((r.pts.map (lateP w lines off (a.length + b.length) s)).map Pt.d)) y15 y16 y17 y18 (fun i => by rw [show s + 1 + i = s + (i + 1) by omega, hv (i + 1)]; simp) (by simp; omega) (by simp; omega)
    refine ⟨z3, z8, z9, z11, z12, z13, z14, z15, z16, z17, z18, ?_⟩
    rw [List.length_cons, rng_cons, List.cons_append, e_forC]
    have eb : bindD (.one 3) (.int ((off + s : Nat) : Int)) (leE w a (joinD b) (foundD a.length b.length) x3 x4 (.own (later.map Row.d)) (.own (due.map Due.d)) x8 x9 x10 x11 x12 x13 x14 x15 x16 x17 x18) = some (leE w a (joinD b) (foundD a.length b.length) (.val (.int ((off + s : Nat) : Int))) x4 (.own (later.map Row.d)) (.own (due.map Due.d)) x8 x9 x10 x11 x12 x13 x14 x15 x16 x17 x18) := rfl
    rw [eb]
    dsimp only
    rw [step]
    dsimp only
    rw [show ((off + s : Nat) : Int) + 1 = ((off + (s + 1) : Nat) : Int) by omega, ih]
    simp [rowsL, duesL]
end
def is6 (L : List D) (x : Slot) : Prop := x = .own L ∨ x = .val (.lst L)
theorem law_lost_ok (w : Ws) (a late : List Row) (e : D) (fd : List D) (dueS x8 x9 x13 x14 x15 x16 x17 x18 : Slot) (hll : late.length ≤ 1000) (S : Sto) : ∀ (ds : List Due) (lost : List (Nat × Nat)) (x3 x6 x10 x11 x12 : Slot), is6 (late.map Row.d) x6 → (∀ d ∈ ds, ∃ p, ptAt late d.h d.pl = some p) → lost.length + ds.length ≤ 1000 →
    ∃ y3 y6 y10 y11 y12, is6 (late.map Row.d) y6 ∧ Sm.forM (.tup [3, 10, 11, 12]) lp__law_edited_0 (ds.map Due.d) (leE w a e fd x3 (.own (lost.map spD)) x6 dueS x8 x9 x10 x11 x12 x13 x14 x15 x16 x17 x18) S
      = .ok (.nx (leE w a e fd y3 (.own ((lost ++ (ds.filter (Due.lost late)).map fun d => (d.h, d.pl)).map spD)) y6 dueS x8 x9 y10 y11 y12 x13 x14 x15 x16 x17 x18)) S
  | [], lost, x3, x6, x10, x11, x12, h6, _, _ => ⟨x3, x6, x10, x11, x12, h6, by simp⟩
  | d :: ds, lost, x3, x6, x10, x11, x12, h6, hv, hl => by
    simp only [List.length_cons] at hl
    obtain ⟨p, hp⟩ := hv d List.mem_cons_self
    have hm := law_at (isRowsL late) hll hp
    have c4 : lost.length < 100000 := by omega
    have nn := ne_natO (means late d.h p) d.t
    have i1 := isN_natO d.m
    have i2 := isN_natO d.t
    have hlost : Due.lost late d = (d.m.isSome && (d.t.isNone || decide (means late d.h p ≠ d.t))) := by
      unfold Due.lost; rw [hp]
    have hstep : lp__law_edited_0 (leE w a e fd (.val (.int (d.h : Int))) (.own (lost.map spD)) x6 dueS x8 x9 (.val (.int (d.pl : Int))) (.val (natO d.m)) (.val (natO d.t)) x13 x14 x15 x16 x17 x18) S =
        .ok (.nx (leE w a e fd (.val (.int (d.h : Int))) (.own ((if Due.lost late d = true then lost ++ [(d.h, d.pl)] else lost).map spD)) (.val (.lst (late.map Row.d))) dueS x8 x9 (.val (.int (d.pl : Int))) (.val (natO d.m)) (.val (natO d.t)) x13 x14 x15 x16 x17 x18)) S := by
      unfold lp__law_edited_0
      simp only [leE]
      rw [hlost]
      rcases h6 with rfl | rfl <;>
      · cases hdm : d.m with
        | none =>
          rw [hdm] at i1
          simp [frzS, frzE, hm, i1]
        | some m =>
          rw [hdm] at i1
          cases hdt : d.t with
          | none =>
            rw [hdt] at i2
            simp [frzS, frzE, hm, i1, i2, c4, spD]
          | some t =>
            rw [hdt] at i2 nn
            by_cases hne : means late d.h p = some t
            · have nn' : ∀ S, neD (natO (means late d.h p)) (natO (some t)) S = some (.bl false) := fun S => by rw [nn]; simp [hne]
              simp only [natO_s] at nn'
              simp [frzS, frzE, hm, i1, i2, nn', c4, spD, hne]
            · have nn' : ∀ S, neD (natO (means late d.h p)) (natO (some t)) S = some (.bl true) := fun S => by rw [nn]; simp [hne]
              simp only [natO_s] at nn'
              simp [frzS, frzE, hm, i1, i2, nn', c4, spD, hne]
    obtain ⟨y3, y6, y10, y11, y12, h6', ih⟩ := law_lost_ok w a late e fd dueS x8 x9 x13 x14 x15 x16 x17 x18 hll S ds (if Due.lost late d = true then lost ++ [(d.h, d.pl)] else lost) (.val (.int (d.h : Int))) (.val (.lst (late.map Row.d))) (.val (.int (d.pl : Int))) (.val (natO d.m)) (.val (natO d.t)) (.inr rfl) (fun u hu => hv u (List.mem_cons_of_mem _ hu)) (by split <;> (try simp) <;> omega)
    refine ⟨y3, y6, y10, y11, y12, h6', ?_⟩
    rw [List.map_cons, e_forC]
    have eb : bindD (.tup [3, 10, 11, 12]) d.d (leE w a e fd x3 (.own (lost.map spD)) x6 dueS x8 x9 x10 x11 x12 x13 x14 x15 x16 x17 x18) = some (leE w a e fd (.val (.int (d.h : Int))) (.own (lost.map spD)) x6 dueS x8 x9 (.val (.int (d.pl : Int))) (.val (natO d.m)) (.val (natO d.t)) x13 x14 x15 x16 x17 x18) := rfl
    rw [eb]
    dsimp only
    rw [hstep]
    dsimp only
    rw [ih]
    by_cases hL : Due.lost late d = true <;> simp [hL]
theorem law_edited (w : Ws) (a b : List Row) (htot : a.length + b.length ≤ 10) (h1 : ∀ r ∈ a, r.pts.length ≤ 2) (h2 : ∀ r ∈ b, r.pts.length ≤ 2) (S : Sto) : m__law_edited [w.d, rowsD a, joinD b] S = .ok (.tup [rowsD (joinR w a b), .lst ((lostJ w a b).map spD)]) S := by
  have hs := law_sources a b (by omega) (by omega)
  have hr : ∀ ρ : Sm.Env, ρ[5]? = some (.val (.lst (foundD a.length b.length))) → range1M (consM (c1 lenD (consM (vb ρ 5) (rt []))) (rt [])) S = .ok (rng 0 a.length ++ rng a.length b.length) S := fun ρ h => by
    rw [e_range1 (n := a.length + b.length) (S' := S) (by simp [h, found_len]) (by omega), rng_app 0 b.length a.length 0, Int.zero_add]
  obtain ⟨y3, y8, y9, y11, y12, y13, y14, y15, y16, y17, y18, hA⟩ := law_part_ok w a b a 0 "old" (part_old _ _) htot ⟨fun _ => rfl, fun h => by simp at h⟩ h1 (rng a.length b.length) .no .no S a 0 [] [] .no .no .no .no .no .no .no .no .no .no .no (fun i => by simp) (by simp; omega) (by simp; omega)
  have ha2 := duesL_len a 0 h1 0 a h1
  obtain ⟨x3, x8, x9, x11, x12, x13, x14, x15, x16, x17, x18, hB⟩ := law_part_ok w a b b a.length "joined" (part_jn _ _) htot ⟨fun h => by simp at h, fun _ => rfl⟩ h2 [] .no .no S b 0 (rowsL w a 0 (a.length + b.length) 0 a) (duesL a 0 0 a) y3 y8 y9 y11 y12 y13 y14 y15 y16 y17 y18 (fun i => by simp) (by rw [rowsL_len]; omega) (by omega)
  have hdl := duesJ_len a b h1 h2
  obtain ⟨z3, z6, z10, z11, z12, h6, hC⟩ := law_lost_ok w a (joinR w a b) (joinD b) (foundD a.length b.length) (.val (.lst ((duesJ a b).map Due.d))) x8 x9 x13 x14 x15 x16 x17 x18 (by rw [joinR_len]; omega) S (duesJ a b) [] x3 (.own ((joinR w a b).map Row.d)) .no x11 x12 (.inl rfl) (fun d hd => due_ok hd) (by simp; omega)
  simp only [List.nil_append, Nat.zero_add, Nat.add_zero, List.append_nil, e_forN, Int.ofNat_zero, Int.natCast_zero] at hA hB hC
  rw [hB] at hA
  unfold m__law_edited
  rw [n__law_edited]
  simp only [leE, rowsD, joinR, duesJ, lostJ, List.map_nil] at hA hC hs h6
  simp only [rowsD, joinR, lostJ, duesJ]
  simp [hs, hr, hA, frzS, frzE, -List.map_append]
  simp [hC, -List.map_append]
  rcases h6 with rfl | rfl <;> simp [-List.map_append]
end Pu

/-! text: Q16 -/
set_option Elab.async false
set_option linter.all false
set_option maxRecDepth 100000
set_option maxHeartbeats 4000000
namespace Sm
open PySem PySem.Spec L2
theorem bools_map {α : Type} (f : α → Bool) : ∀ xs : List α, bools (xs.map fun x => .bl (f x)) = some (xs.map f)
  | [] => rfl
  | x :: xs => by
    rw [List.map_cons, List.map_cons]
    unfold bools
    rw [bools_map f xs]
theorem all_map {α : Type} (f : α → Bool) (xs : List α) (S : Sto) : allD [.lst (xs.map fun x => .bl (f x))] S = some (.bl (xs.all f)) := by
  show (match bools (xs.map fun x => .bl (f x)) with | some bs => some (D.bl (bs.all id)) | none => none) = _
  rw [bools_map]
  simp [List.all_map, Function.comp]
theorem any_map {α : Type} (f : α → Bool) (xs : List α) (S : Sto) : anyD [.lst (xs.map fun x => .bl (f x))] S = some (.bl (xs.any f)) := by
  show (match bools (xs.map fun x => .bl (f x)) with | some bs => some (D.bl (bs.any id)) | none => none) = _
  rw [bools_map]
  simp [List.any_map, Function.comp]
@[simp] theorem e_neBB (a b : Bool) (S : Sto) : neD (.bl a) (.bl b) S = some (.bl (!decide (a = b))) := by
  unfold neD
  cases a <;> cases b <;> simp [D.py, PyData.eqv, PyData.depth]
theorem fit_ok {m : M (List D)} {S S' : Sto} {ys : List D} (h : m S = .ok ys S') (hc : ys.length ≤ 100000) : fitM m S = .ok ys S' := by
  unfold fitM bd
  rw [h]
  exact if_pos hc
theorem e_lenI {n : Nat} (h : n ≤ 50) (S : Sto) : lenI (.int (n : Int)) S = .ok (.int (n : Int)) S := by
  unfold lenI
  dsimp only
  split
  · rfl
  · rename_i h2
    exact absurd ⟨by omega, by omega⟩ h2
end Sm
namespace Pu
open PySem PySem.Spec L2 Sm Wk
def spotsL : Nat → List Row → List (Nat × Nat)
  | _, [] => []
  | s, r :: rs => (List.range' 0 r.pts.length).map (fun j => (s, j)) ++ spotsL (s + 1) rs
def spots (rs : List Row) : List (Nat × Nat) := spotsL 0 rs
def meanS (rs : List Row) (x : Nat × Nat) : Option Nat := (ptAt rs x.1 x.2).bind (means rs x.1)
def whole (rs : List Row) : Bool := (spots rs).all fun x => (meanS rs x).isSome
theorem spotsL_mem : ∀ {s : Nat} {rs : List Row} {x : Nat × Nat}, x ∈ spotsL s rs ↔ ∃ i r p, x.1 = s + i ∧ rs[i]? = some r ∧ r.pts[x.2]? = some p
  | s, [], x => by simp [spotsL]
  | s, r :: rs, (h, pl) => by
    unfold spotsL
    rw [List.mem_append, spotsL_mem]
    constructor
    · rintro (h1 | ⟨i, r', p, h1, h2, h3⟩)
      · simp at h1
        obtain ⟨h1, rfl⟩ := h1
        exact ⟨0, r, r.pts[pl], rfl, rfl, by simp [h1]⟩
      · exact ⟨i + 1, r', p, by simp at h1 ⊢; omega, by simpa using h2, h3⟩
    · rintro ⟨i, r', p, h1, h2, h3⟩
      cases i with
      | zero =>
        simp at h1 h2 h3
        subst h2
        left
        have := (List.getElem?_eq_some_iff.mp h3).1
        simp [h1, this]
      | succ i => exact .inr ⟨i, r', p, by simp at h1 ⊢; omega, by simpa using h2, h3⟩
theorem spots_mem {rs : List Row} {x : Nat × Nat} : x ∈ spots rs ↔ ∃ p, ptAt rs x.1 x.2 = some p := by
  unfold spots
  rw [spotsL_mem]
  constructor
  · rintro ⟨i, r, p, h1, h2, h3⟩
    refine ⟨p, ?_⟩
    unfold ptAt
    rw [h1, Nat.zero_add, h2]
    exact h3
  · rintro ⟨p, h⟩
    unfold ptAt at h
    obtain ⟨r, h1, h2⟩ := Option.bind_eq_some_iff.mp h
    exact ⟨x.1, r, p, by omega, h1, h2⟩
theorem spotsL_len (hpt : Nat) : ∀ (s : Nat) (rs : List Row), (∀ r ∈ rs, r.pts.length ≤ 2) → (spotsL s rs).length ≤ 2 * rs.length
  | _, [], _ => by simp [spotsL]
  | s, r :: rs, h => by
    have h1 := h r List.mem_cons_self
    have h2 := spotsL_len hpt (s + 1) rs fun r hr => h r (List.mem_cons_of_mem _ hr)
    simp only [spotsL, List.length_append, List.length_map, List.length_range', List.length_cons]
    omega
def as_it : Sm.Env → M (List D) := fun ρ => (range1M (consM (c1 lenD (consM (o2 ixD (vb ρ 3) (rt (.int 1))) (rt []))) (rt [])))
def as_el : Sm.Env → M D := fun ρ => (tupM (consM (vl ρ 2) (consM (vl ρ 1) (rt []))))
theorem n_all_spots : b_all_spots = (fun ρ => bd (bd (bd (bd (vl ρ 0) fun d => bd (seqM d) fun ds => rt (enumL 0 ds)) fun ds => noX (few ds (fitM (lc2M (fun d => bindD (.tup [2, 3]) d (wipeE ρ [2, 3, 1])) (fun ρ => (rt true)) as_it (fun ρ d => bindD (.one 1) d (wipeE ρ [1])) (fun ρ => (rt true)) as_el ds)))) fun ds => rt (.lst ds)) fun d => rt (.ret d)) := rfl
theorem enum_len : ∀ (ds : List D) (k : Nat), (enumL k ds).length = ds.length
  | [], _ => rfl
  | d :: ds, k => by simp [enumL, enum_len ds (k + 1)]
theorem sp_lc2 (v : D) (S : Sto) : ∀ (rs : List Row) (s : Nat), (∀ r ∈ rs, r.pts.length ≤ 2) → lc2M (fun d => bindD (.tup [2, 3]) d (wipeE [.val v, .no, .no, .no] [2, 3, 1])) (fun ρ => (rt true)) as_it (fun ρ d => bindD (.one 1) d (wipeE ρ [1])) (fun ρ => (rt true)) as_el (enumL s (rs.map Row.d)) S = .ok ((spotsL s rs).map spD) S
  | [], s, _ => rfl
  | r :: rs, s, h => by
    have ih := sp_lc2 v S rs (s + 1) fun r hr => h r (List.mem_cons_of_mem _ hr)
    have h2 := h r List.mem_cons_self
    have hr : range1M (consM (c1 lenD (consM (o2 ixD (rt r.d) (rt (.int 1))) (rt []))) (rt [])) S = .ok (rng 0 r.pts.length) S := e_range1 (n := r.pts.length) (by simp [Row.d]) (by omega)
    have hl := lc_map (S := S) (bnd := fun d => bindD (.one 1) d (wipeE [.val v, .no, .val (.int (s : Int)), .val r.d] [1])) (e := as_el) (f := fun i : Nat => D.int (i : Int)) (g := fun i => spD (s, i)) (List.range' 0 r.pts.length) fun i _ => ⟨_, rfl, by unfold as_el; simp [wipeE, spD]⟩
    rw [← rng_part] at hl
    rw [List.map_cons]
    unfold enumL lc2M
    have eb : bindD (.tup [2, 3]) (.tup [.int (s : Int), r.d]) (wipeE [.val v, .no, .no, .no] [2, 3, 1]) = some [.val v, .no, .val (.int (s : Int)), .val r.d] := rfl
    rw [eb]
    have hit : as_it [.val v, .no, .val (.int (s : Int)), .val r.d] S = .ok (rng 0 r.pts.length) S := by
      unfold as_it
      exact hr
    simp [hit, hl, ih, spotsL]
theorem all_spots (rs : List Row) (hl : rs.length ≤ 10) (hpt : ∀ r ∈ rs, r.pts.length ≤ 2) (S : Sto) : m_all_spots [rowsD rs] S = .ok (.lst ((spots rs).map spD)) S := by
  have h := sp_lc2 (rowsD rs) S rs 0 hpt
  have hc : (spots rs).length ≤ 100000 := by
    have := spotsL_len 0 0 rs hpt
    unfold spots
    omega
  have hc2 : (enumL 0 (rs.map Row.d)).length ≤ 100 := by rw [enum_len, List.length_map]; omega
  unfold m_all_spots
  rw [n_all_spots]
  simp only [rowsD] at h ⊢
  simp only [spots] at hc ⊢
  have hf := fit_ok h (by rw [List.length_map]; exact hc)
  simp [few, hf, hc2]
theorem law_spots_loop (rs0 : List Row) (S : Sto) : ∀ (rs : List Row) (s : Nat) (acc : List (Nat × Nat)) (x2 x3 : Slot), (∀ i : Nat, rs0[s + i]? = rs[i]?) → (∀ r ∈ rs, r.pts.length ≤ 2) → acc.length + 2 * rs.length ≤ 1000 →
    ∃ y2 y3, Sm.forM (.one 2) lp__law_spots_0 (rng (s : Int) rs.length) [.val (rowsD rs0), .own (acc.map spD), x2, x3] S = .ok (.nx [.val (rowsD rs0), .own ((acc ++ spotsL s rs).map spD), y2, y3]) S
  | [], s, acc, x2, x3, _, _, _ => ⟨x2, x3, by simp [spotsL, rng]⟩
  | r :: rs, s, acc, x2, x3, hv, hpt, hc => by
    simp only [List.length_cons] at hc
    have h2 := hpt r List.mem_cons_self
    have hr : rs0[s]? = some r := by simpa using hv 0
    have e1 : L2.atI (rs0.map Row.d) (s : Int) = some r.d := e_atS (by simp [hr])
    obtain ⟨y2, y3, ih⟩ := law_spots_loop rs0 S rs (s + 1) (acc ++ (List.range' 0 r.pts.length).map fun j => (s, j)) (.val (.int (s : Int))) x3 (fun i => by rw [show s + 1 + i = s + (i + 1) by omega, hv (i + 1)]; simp) (fun r hr => hpt r (List.mem_cons_of_mem _ hr)) (by simp; omega)
    have hrg : ∀ ρ : Sm.Env, ρ[0]? = some (.val (rowsD rs0)) → ρ[2]? = some (.val (.int (s : Int))) → range1M (consM (c1 lenD (consM (o2 ixD (o2 ixD (vb ρ 0) (vb ρ 2)) (rt (.int 1))) (rt []))) (rt [])) S = .ok (rng 0 r.pts.length) S := fun ρ a b => e_range1 (n := r.pts.length) (by simp [a, b, rowsD, e1, Row.d]) (by omega)
    have hl := lc_map (S := S) (bnd := fun d => bindD (.one 3) d (wipeE [.val (rowsD rs0), .own (acc.map spD), .val (.int (s : Int)), x3] [3])) (e := ce__law_spots_0) (f := fun i : Nat => D.int (i : Int)) (g := fun i => spD (s, i)) (List.range' 0 r.pts.length) fun i _ => ⟨_, rfl, by unfold ce__law_spots_0; simp [wipeE, spD]⟩
    rw [← rng_part] at hl
    have ea := fun S => e_addL (a := acc.map spD) (b := (List.range' 0 r.pts.length).map fun i => spD (s, i)) (by simp; omega) S
    refine ⟨y2, y3, ?_⟩
    rw [List.length_cons, rng_cons, e_forC]
    have eb : bindD (.one 2) (.int (s : Int)) [.val (rowsD rs0), .own (acc.map spD), x2, x3] = some [.val (rowsD rs0), .own (acc.map spD), .val (.int (s : Int)), x3] := rfl
    rw [eb]
    dsimp only
    have key : lp__law_spots_0 [.val (rowsD rs0), .own (acc.map spD), .val (.int (s : Int)), x3] S = .ok (.nx [.val (rowsD rs0), .own ((acc ++ (List.range' 0 r.pts.length).map fun j => (s, j)).map spD), .val (.int (s : Int)), x3]) S := by
      unfold lp__law_spots_0
      simp [hrg, hl, ea, Function.comp]
    rw [key]
    dsimp only
    rw [show (s : Int) + 1 = ((s + 1 : Nat) : Int) by omega, ih]
    simp [spotsL]
theorem law_spots (rs : List Row) (hl : rs.length ≤ 10) (hpt : ∀ r ∈ rs, r.pts.length ≤ 2) (S : Sto) : m__law_spots [rowsD rs] S = .ok (.lst ((spots rs).map spD)) S := by
  obtain ⟨y2, y3, h⟩ := law_spots_loop rs S rs 0 [] .no .no (fun i => by simp) hpt (by simp; omega)
  have hr : ∀ ρ : Sm.Env, ρ[0]? = some (.val (rowsD rs)) → range1M (consM (c1 lenD (consM (vb ρ 0) (rt []))) (rt [])) S = .ok (rng 0 rs.length) S := fun ρ h => e_range1 (n := rs.length) (by simp [h, rowsD]) (by omega)
  simp only [List.map_nil, List.nil_append, Int.natCast_zero] at h
  unfold m__law_spots
  rw [n__law_spots]
  simp [hr, h, frzS, frzE, spots]
theorem meant_at {rs : List Row} {h pl : Nat} {p : Pt} (hp : ptAt rs h pl = some p) (S : Sto) : m_meant_at [rowsD rs, .tup [.int (h : Int), .int (pl : Int)]] S = .ok (natO (means rs h p)) S := by
  obtain ⟨r, e1, e2⟩ := ptAt_d hp
  have hm := meaning rs h p
  unfold m_meant_at b_meant_at
  simp only [rowsD] at hm ⊢
  simp [e1, e2, hm]
theorem are_whole (rs : List Row) (hl : rs.length ≤ 10) (hpt : ∀ r ∈ rs, r.pts.length ≤ 2) (S : Sto) : m_are_whole [rowsD rs] S = .ok (.bl (whole rs)) S := by
  have hs := all_spots rs hl hpt
  have h := lc_map (S := S) (bnd := fun d => bindD (.one 1) d (wipeE [.val (rowsD rs), .no] [1])) (e := ce_are_whole_0) (f := spD) (g := fun x => .bl (meanS rs x).isSome) (spots rs) fun x hx => by
    obtain ⟨p, hp⟩ := spots_mem.mp hx
    have hm := meant_at hp
    have i1 := isN_natO (means rs x.1 p)
    refine ⟨_, rfl, ?_⟩
    unfold ce_are_whole_0
    have : meanS rs x = means rs x.1 p := by unfold meanS; rw [hp]; rfl
    rw [this]
    simp [wipeE, spD, hm, i1]
  have ha := all_map (fun x => (meanS rs x).isSome) (spots rs)
  unfold m_are_whole
  rw [n_are_whole]
  simp [hs, h, ha, whole]
theorem law_is_whole (rs : List Row) (hl : rs.length ≤ 10) (hpt : ∀ r ∈ rs, r.pts.length ≤ 2) (S : Sto) : m__law_is_whole [rowsD rs] S = .ok (.bl (whole rs)) S := by
  have hs := law_spots rs hl hpt
  have h := lc_map (S := S) (bnd := fun d => bindD (.one 1) d (wipeE [.val (rowsD rs), .no] [1])) (e := ce__law_is_whole_0) (f := spD) (g := fun x => .bl (meanS rs x).isSome) (spots rs) fun x hx => by
    obtain ⟨p, hp⟩ := spots_mem.mp hx
    have hm := law_at (isRowsT rs) (by omega) hp
    have i1 := isN_natO (means rs x.1 p)
    refine ⟨_, rfl, ?_⟩
    unfold ce__law_is_whole_0
    have : meanS rs x = means rs x.1 p := by unfold meanS; rw [hp]; rfl
    rw [this]
    simp [wipeE, spD, hm, i1]
  have ha := all_map (fun x => (meanS rs x).isSome) (spots rs)
  unfold m__law_is_whole
  rw [n__law_is_whole]
  simp [hs, h, ha, whole]
end Pu

/-! text: Q17 -/
set_option Elab.async false
set_option linter.all false
set_option maxRecDepth 100000
set_option maxHeartbeats 4000000
namespace Pu
open PySem PySem.Spec L2 Sm Wk
theorem spD_inj {x y : Nat × Nat} : spD x = spD y ↔ x = y := by
  obtain ⟨a, b⟩ := x
  obtain ⟨c, d⟩ := y
  simp [spD]
  omega
theorem spD_clean (x : Nat × Nat) : clean 2 (spD x) = true := by simp [spD, clean]
theorem spots_clean (xs : List (Nat × Nat)) : (xs.map spD).all (clean 2) = true := by
  rw [List.all_map, List.all_eq_true]
  intro x _
  exact spD_clean x
theorem in_spots (x : Nat × Nat) (xs : List (Nat × Nat)) (S : Sto) : inD false (spD x) (.lst (xs.map spD)) S = some (.bl (decide (x ∈ xs))) ∧ inD true (spD x) (.lst (xs.map spD)) S = some (.bl (!decide (x ∈ xs))) := by
  obtain ⟨b, h1, h2, h3⟩ := in_clean (by decide : 2 ≤ 60) (spD_clean x) (spots_clean xs)
  have : b = decide (x ∈ xs) := by
    by_cases h : x ∈ xs
    · rw [decide_eq_true h]
      exact h3.mpr (List.mem_map_of_mem h)
    · rw [decide_eq_false h, Bool.eq_false_iff]
      intro hb
      obtain ⟨y, hy, e⟩ := List.mem_map.mp (h3.mp hb)
      rw [spD_inj.mp e] at hy
      exact h hy
  rw [← this]
  exact ⟨h1 S, h2 S⟩
theorem eq_nilS (xs : List (Nat × Nat)) (S : Sto) : eqD (.lst (xs.map spD)) (.lst []) S = some (.bl xs.isEmpty) ∧ neD (.lst (xs.map spD)) (.lst []) S = some (.bl (!xs.isEmpty)) := by
  obtain ⟨b, h1, h2, h3⟩ := eq_clean (n := 3) (by decide) (d := .lst (xs.map spD)) (e := .lst []) (by simpa [clean] using spots_clean xs) (by simp [clean])
  have : b = xs.isEmpty := by
    cases xs with
    | nil => exact h3.mpr rfl
    | cons x xs =>
      have e : b = false := Bool.eq_false_iff.mpr (fun hb => by have := h3.mp hb; simp at this)
      rw [e]
      rfl
  rw [← this]
  exact ⟨h1 S, h2 S⟩
def barsQ (w : Ws) (len gap at_ : Nat) : Pt → Bool
  | .at .fin _ => (decide (at_ < gap) && decide (gap < len)) && decide (w.e = "raw")
  | .at .num _ => (decide (gap ≤ at_) && decide (0 < gap)) && decide (w.n = "raw")
  | _ => false
def barsP (w : Ws) (len gap at_ m : Nat) (p : Pt) : Bool := if decide (m < gap) = decide (at_ < gap) then barsQ w len gap at_ p else true
def bars (w : Ws) (rs : List Row) (gap : Nat) (x : Nat × Nat) : Bool := match ptAt rs x.1 x.2 with
  | none => false
  | some p => match means rs x.1 p with
    | none => true
    | some m => barsP w rs.length gap x.1 m p
theorem lt_nat (a b : Nat) : decide ((a : Int) < (b : Int)) = decide (a < b) := by
  by_cases h : a < b
  · rw [decide_eq_true h, decide_eq_true (by omega)]
  · rw [decide_eq_false h, decide_eq_false (by omega)]
theorem le_nat (a b : Nat) : decide ((a : Int) ≤ (b : Int)) = decide (a ≤ b) := by
  by_cases h : a ≤ b
  · rw [decide_eq_true h, decide_eq_true (by omega)]
  · rw [decide_eq_false h, decide_eq_false (by omega)]
theorem does_bar (w : Ws) (rs : List Row) (gap : Nat) (x : Nat × Nat) (hx : x ∈ spots rs) (S : Sto) : m_does_bar [w.d, rowsD rs, .int (gap : Int), spD x] S = .ok (.bl (bars w rs gap x)) S := by
  obtain ⟨p, hp⟩ := spots_mem.mp hx
  obtain ⟨h, pl⟩ := x
  have hm := meant_at hp
  obtain ⟨r, e1, e2⟩ := ptAt_d hp
  have i1 := isN_natO (means rs h p)
  obtain ⟨k1, k2, k3, k4⟩ := kinds_ix
  cases hmi : means rs h p with
  | none =>
    have hb : bars w rs gap (h, pl) = true := by
      unfold bars; rw [hp]; dsimp only; rw [hmi]
    rw [hb]
    rw [hmi] at hm i1
    simp only [natO_n] at hm i1
    unfold m_does_bar b_does_bar
    simp only [rowsD, spD] at hm ⊢
    simp [hm]
  | some m =>
    have hb : bars w rs gap (h, pl) = barsP w rs.length gap h m p := by
      unfold bars; rw [hp]; dsimp only; rw [hmi]
    rw [hb]
    rw [hmi] at hm i1
    simp only [natO_s] at hm i1
    by_cases hs : decide (m < gap) = decide (h < gap)
    · have hs' : ∀ S, neD (.bl (decide (m < gap))) (.bl (decide (h < gap))) S = some (.bl false) := fun S => by
        rw [hs]; simp
      have ch1 : ∀ (ρ : Sm.Env) (S : Sto), ρ[5]? = some (.val (.int (h : Int))) → ρ[2]? = some (.val (.int (gap : Int))) → ρ[1]? = some (.val (.tup (rs.map Row.d))) → chainM ltI ltI (vb ρ 5) (vb ρ 2) (c1 lenD (consM (vb ρ 1) (rt []))) S = .ok (.bl (decide (h < gap) && decide (gap < rs.length))) S := fun ρ S a b c =>
        e_chain (a := .int h) (b := .int gap) (d := .int rs.length) (by simp [a]) (by simp [b]) (by simp [c]) (by rw [← lt_nat]; rfl) (by rw [← lt_nat]; rfl)
      have ch2 : ∀ (ρ : Sm.Env) (S : Sto), ρ[5]? = some (.val (.int (h : Int))) → ρ[2]? = some (.val (.int (gap : Int))) → chainM geI gtI (vb ρ 5) (vb ρ 2) (rt (.int 0)) S = .ok (.bl (decide (gap ≤ h) && decide (0 < gap))) S := fun ρ S a b =>
        e_chain (a := .int h) (b := .int gap) (d := .int 0) (by simp [a]) (by simp [b]) rfl (by rw [← le_nat]; rfl) (by rw [← lt_nat (0 : Nat)]; rfl)
      have hz : barsP w rs.length gap h m p = barsQ w rs.length gap h p := if_pos hs
      rw [hz]
      unfold m_does_bar b_does_bar
      simp only [rowsD, spD] at hm ⊢
      cases p with
      | lab l => simp [barsQ, hm, hs', e1, e2, Pt.d, -e_neBB]
      | «at» k n =>
        cases k with
        | num =>
          simp only [barsQ]
          cases hc : decide (gap ≤ h) && decide (0 < gap) <;> (rw [hc] at ch2; simp [hm, hs', e1, e2, Pt.d, Kd.s, ch2, k1, Ws.d, -e_neBB])
        | abv => simp [barsQ, hm, hs', e1, e2, Pt.d, Kd.s, -e_neBB]
        | blw => simp [barsQ, hm, hs', e1, e2, Pt.d, Kd.s, -e_neBB]
        | fin =>
          simp only [barsQ]
          cases hc : decide (h < gap) && decide (gap < rs.length) <;> (rw [hc] at ch1; simp [hm, hs', e1, e2, Pt.d, Kd.s, ch1, k4, Ws.d, -e_neBB])
    · have hs' : ∀ S, neD (.bl (decide (m < gap))) (.bl (decide (h < gap))) S = some (.bl true) := fun S => by
        rw [e_neBB, decide_eq_false hs]; rfl
      have hz : barsP w rs.length gap h m p = true := if_neg hs
      rw [hz]
      unfold m_does_bar b_does_bar
      simp only [rowsD, spD] at hm ⊢
      simp [hm, hs', -e_neBB]
end Pu

/-! text: Q18 -/
set_option Elab.async false
set_option linter.all false
set_option maxRecDepth 100000
set_option maxHeartbeats 4000000
namespace Pu
open PySem PySem.Spec L2 Sm Wk
theorem pt_form (p : Pt) : ∃ s y, p.d = .tup [.str s, y] := by
  cases p with
  | lab l => exact ⟨_, _, rfl⟩
  | «at» k n => exact ⟨_, _, rfl⟩
theorem law_does_bar (w : Ws) (rs : List Row) (hl : rs.length ≤ 10) (hpt : ∀ r ∈ rs, r.pts.length ≤ 2) (gap : Nat) (x : Nat × Nat) (S : Sto) : m__law_does_bar [w.d, rowsD rs, .int (gap : Int), spD x] S = .ok (.bl (bars w rs gap x)) S := by
  have hsp := law_spots rs hl hpt
  have hin := fun S => (in_spots x (spots rs) S).2
  obtain ⟨h, pl⟩ := x
  by_cases hx : (h, pl) ∈ spots rs
  · rw [decide_eq_true hx] at hin
    obtain ⟨p, hp⟩ := spots_mem.mp hx
    have hm := law_at (isRowsT rs) (by omega) hp
    obtain ⟨r, e1, e2⟩ := ptAt_d hp
    have i1 := isN_natO (means rs h p)
    cases hmi : means rs h p with
    | none =>
      have hb : bars w rs gap (h, pl) = true := by
        unfold bars; rw [hp]; dsimp only; rw [hmi]
      rw [hb]
      rw [hmi] at hm i1
      simp only [natO_n] at hm i1
      unfold m__law_does_bar b__law_does_bar
      simp only [rowsD, spD] at hm hsp hin e1 ⊢
      obtain ⟨s, y, hs⟩ := pt_form p
      rw [hs] at e2
      simp [hsp, hin, hm, e1, e2]
    | some m =>
      have hb : bars w rs gap (h, pl) = barsP w rs.length gap h m p := by
        unfold bars; rw [hp]; dsimp only; rw [hmi]
      rw [hb]
      rw [hmi] at hm i1
      simp only [natO_s] at hm i1
      by_cases hs : decide (m < gap) = decide (h < gap)
      · have hs' : ∀ S, neD (.bl (decide (h < gap))) (.bl (decide (m < gap))) S = some (.bl false) := fun S => by
          rw [hs]; simp
        have hz : barsP w rs.length gap h m p = barsQ w rs.length gap h p := if_pos hs
        rw [hz]
        unfold m__law_does_bar b__law_does_bar
        simp only [rowsD, spD] at hm hsp hin e1 ⊢
        by_cases b : h < gap
        · have b' : m < gap := by simpa [b] using hs
          have b2 : ¬ gap ≤ h := by omega
          cases p with
          | lab l => simp [barsQ, hsp, hin, hm, b, b', e1, e2, Pt.d]
          | «at» k n =>
            cases k with
            | num =>
              by_cases a : w.n = "raw"
              · simp [barsQ, hsp, hin, hm, b, b', b2, e1, e2, Pt.d, Kd.s, Ws.d, a]
              · simp [barsQ, hsp, hin, hm, b, b', b2, e1, e2, Pt.d, Kd.s, Ws.d, a]
            | abv => simp [barsQ, hsp, hin, hm, b, b', e1, e2, Pt.d, Kd.s]
            | blw => simp [barsQ, hsp, hin, hm, b, b', e1, e2, Pt.d, Kd.s]
            | fin =>
              by_cases c : gap < rs.length
              · by_cases a : w.e = "raw"
                · simp [barsQ, hsp, hin, hm, b, b', e1, e2, Pt.d, Kd.s, Ws.d, a, c]
                · simp [barsQ, hsp, hin, hm, b, b', e1, e2, Pt.d, Kd.s, Ws.d, a, c]
              · by_cases a : w.e = "raw"
                · simp [barsQ, hsp, hin, hm, b, b', e1, e2, Pt.d, Kd.s, Ws.d, a, c]
                · simp [barsQ, hsp, hin, hm, b, b', e1, e2, Pt.d, Kd.s, Ws.d, a, c]
        · have b' : ¬ m < gap := by simpa [b] using hs
          have b2 : gap ≤ h := by omega
          cases p with
          | lab l => simp [barsQ, hsp, hin, hm, b, b', e1, e2, Pt.d]
          | «at» k n =>
            cases k with
            | num =>
              by_cases c : 0 < gap
              · by_cases a : w.n = "raw"
                · simp [barsQ, hsp, hin, hm, b, b', b2, e1, e2, Pt.d, Kd.s, Ws.d, a, c]
                · simp [barsQ, hsp, hin, hm, b, b', b2, e1, e2, Pt.d, Kd.s, Ws.d, a, c]
              · by_cases a : w.n = "raw"
                · simp [barsQ, hsp, hin, hm, b, b', b2, e1, e2, Pt.d, Kd.s, Ws.d, a, c]
                · simp [barsQ, hsp, hin, hm, b, b', b2, e1, e2, Pt.d, Kd.s, Ws.d, a, c]
            | abv => simp [barsQ, hsp, hin, hm, b, b', e1, e2, Pt.d, Kd.s]
            | blw => simp [barsQ, hsp, hin, hm, b, b', e1, e2, Pt.d, Kd.s]
            | fin =>
              by_cases a : w.e = "raw"
              · simp [barsQ, hsp, hin, hm, b, b', e1, e2, Pt.d, Kd.s, Ws.d, a]
              · simp [barsQ, hsp, hin, hm, b, b', e1, e2, Pt.d, Kd.s, Ws.d, a]
      · have hs' : ∀ S, neD (.bl (decide (h < gap))) (.bl (decide (m < gap))) S = some (.bl true) := fun S => by
          rw [e_neBB, decide_eq_false (fun z => hs z.symm)]; rfl
        have hz : barsP w rs.length gap h m p = true := if_neg hs
        rw [hz]
        unfold m__law_does_bar b__law_does_bar
        simp only [rowsD, spD] at hm hsp hin e1 ⊢
        obtain ⟨s, y, hs⟩ := pt_form p
        rw [hs] at e2
        simp [hsp, hin, hm, hs', e1, e2, -e_neBB]
  · rw [decide_eq_false hx] at hin
    have hb : bars w rs gap (h, pl) = false := by
      unfold bars
      cases hp : ptAt rs h pl with
      | none => rfl
      | some p => exact absurd (spots_mem.mpr ⟨p, hp⟩) hx
    rw [hb]
    unfold m__law_does_bar b__law_does_bar
    simp only [rowsD, spD] at hsp hin ⊢
    simp [hsp, hin]
end Pu

/-! text: Q19 -/
set_option Elab.async false
set_option linter.all false
set_option maxRecDepth 100000
set_option maxHeartbeats 4000000
namespace Pu
open PySem PySem.Spec L2 Sm Wk
def barsL (w : Ws) (rs : List Row) (gap : Nat) : List (Nat × Nat) := (spots rs).filter (bars w rs gap)
theorem bars_of (w : Ws) (rs : List Row) (hl : rs.length ≤ 10) (hpt : ∀ r ∈ rs, r.pts.length ≤ 2) (gap : Nat) (S : Sto) : m_bars_of [w.d, rowsD rs, .int (gap : Int)] S = .ok (.lst ((barsL w rs gap).map spD)) S := by
  have hs := all_spots rs hl hpt
  have h := lc_mapF (S := S) (bnd := fun d => bindD (.one 3) d (wipeE [.val w.d, .val (rowsD rs), .val (.int (gap : Int)), .no] [3])) (t := ct_bars_of_0) (e := ce_bars_of_0) (f := spD) (g := spD) (p := bars w rs gap) (spots rs) fun x hx => by
    have hb := does_bar w rs gap x hx
    refine ⟨_, rfl, ?_, fun _ => ?_⟩
    · unfold ct_bars_of_0
      simp [wipeE, hb]
    · unfold ce_bars_of_0
      simp [wipeE]
  unfold m_bars_of
  rw [n_bars_of]
  simp [hs, h, barsL]
theorem steps_len (rs : List Row) (S : Sto) : m_Steps_len [.ins 0 [rowsD rs]] S = .ok (.int rs.length) S := by
  unfold m_Steps_len b_Steps_len
  simp [rowsD]
def wayD (w : Ws) : D := .ins 1 [w.d]
def stepsD (rs : List Row) : D := .ins 0 [rowsD rs]
theorem check_gap (w : Ws) (rs : List Row) (hl : rs.length ≤ 10) (gap : Nat) (hg : gap ≤ rs.length) (S : Sto) : m_check_gap [wayD w, stepsD rs, .int (gap : Int)] S = .ok .non S := by
  have h1 := fun S => e_lenI (n := rs.length) (by omega) S
  unfold m_check_gap b_check_gap wayD stepsD
  simp [check_way, check_steps, steps_len, is_number, h1, hg]
def seamsL (w : Ws) (rs : List Row) : List Nat := (List.range' 0 (rs.length + 1)).filter fun g => (barsL w rs g).isEmpty
def natsD (xs : List Nat) : D := .lst (xs.map fun i : Nat => D.int (i : Int))
theorem seams (w : Ws) (rs : List Row) (hl : rs.length ≤ 10) (hpt : ∀ r ∈ rs, r.pts.length ≤ 2) (S : Sto) : m_seams [wayD w, stepsD rs] S = .ok (natsD (seamsL w rs)) S := by
  have h1 := fun S => e_lenI (n := rs.length) (by omega) S
  have hr : ∀ ρ : Sm.Env, ρ[1]? = some (.val (stepsD rs)) → range1M (consM (o2 addA (bd (vl ρ 1) fun d => bd (insM 0 d) fun d => bd (noX (callM 1 m_Steps_len [d])) lenI) (rt (.int 1))) (rt [])) S = .ok (rng 0 (rs.length + 1)) S := fun ρ h => e_range1 (n := rs.length + 1) (by simp [h, stepsD, steps_len, h1]) (by omega)
  have h := lc_mapF (S := S) (bnd := fun d => bindD (.one 2) d (wipeE [.val (wayD w), .val (stepsD rs), .no] [2])) (t := ct_seams_0) (e := ce_seams_0) (f := fun i : Nat => D.int (i : Int)) (g := fun i : Nat => D.int (i : Int)) (p := fun g => (barsL w rs g).isEmpty) (List.range' 0 (rs.length + 1)) fun g _ => by
    have hb := bars_of w rs hl hpt g
    have he := fun S => (eq_nilS (barsL w rs g) S).1
    refine ⟨_, rfl, ?_, fun _ => ?_⟩
    · unfold ct_seams_0
      simp [wipeE, wayD, stepsD, way_words, steps_rows, hb, he]
    · unfold ce_seams_0
      simp [wipeE]
  rw [← rng_part] at h
  unfold m_seams
  rw [n_seams]
  simp only [wayD, stepsD] at h hr ⊢
  simp [check_way, check_steps, hr, h, natsD, seamsL]
end Pu

/-! text: Q20 -/
set_option Elab.async false
set_option linter.all false
set_option maxRecDepth 100000
set_option maxHeartbeats 4000000
namespace Pu
open PySem PySem.Spec L2 Sm Wk
/-! ### the plain matter: what a pointer of a half becomes -/
def firstS : List (Option Str) → Str → Option Nat
  | [], _ => none
  | r :: rs, l => if r = some l then some 0 else (firstS rs l).map (· + 1)
theorem firstS_eq (l : Str) : ∀ rs : List Row, firstL rs l = firstS (rs.map Row.lab) l
  | [] => rfl
  | r :: rs => by
    rw [List.map_cons]
    unfold firstL firstS
    rw [firstS_eq l rs]
def meansL (ls : List (Option Str)) (at_ : Nat) : Pt → Option Nat
  | .lab l => firstS ls l
  | .at k n => if 0 ≤ spotI ls.length at_ n k ∧ spotI ls.length at_ n k < ls.length then some (spotI ls.length at_ n k).toNat else none
theorem means_eq (rs : List Row) (at_ : Nat) (p : Pt) : means rs at_ p = meansL (rs.map Row.lab) at_ p := by
  cases p with
  | lab l => exact firstS_eq l rs
  | «at» k n => simp only [means, meansL, List.length_map]
theorem firstS_lt : ∀ {ls : List (Option Str)} {l : Str} {i : Nat}, firstS ls l = some i → i < ls.length
  | [], _, _, h => by cases h
  | r :: rs, l, i, h => by
    unfold firstS at h
    split at h
    · cases h; simp
    · cases e : firstS rs l with
      | none => rw [e] at h; cases h
      | some j =>
        rw [e] at h
        cases h
        have := firstS_lt e
        simp; omega
theorem meansL_lt {ls : List (Option Str)} {at_ : Nat} {p : Pt} {i : Nat} (h : meansL ls at_ p = some i) : i < ls.length := by
  cases p with
  | lab l => exact firstS_lt h
  | «at» k n =>
    simp only [meansL] at h
    split at h
    · injection h with h; omega
    · exact nomatch h
theorem firstS_take (l : Str) : ∀ (ls : List (Option Str)) (g M : Nat), firstS ls l = some M → M < g → firstS (ls.take g) l = some M
  | [], _, _, h, _ => by cases h
  | r :: rs, 0, _, _, h => by omega
  | r :: rs, g + 1, M, h, hg => by
    rw [List.take_succ_cons]
    unfold firstS at h ⊢
    by_cases hr : r = some l
    · rw [if_pos hr] at h ⊢; exact h
    · rw [if_neg hr] at h ⊢
      cases e : firstS rs l with
      | none => rw [e] at h; cases h
      | some j =>
        rw [e] at h
        have hj : j + 1 = M := by simpa using h
        rw [firstS_take l rs g j e (by omega)]
        simpa using hj
theorem firstS_drop (l : Str) : ∀ (ls : List (Option Str)) (g M : Nat), firstS ls l = some M → g ≤ M → firstS (ls.drop g) l = some (M - g)
  | [], _, _, h, _ => by cases h
  | r :: rs, 0, M, h, _ => by simpa using h
  | r :: rs, g + 1, M, h, hg => by
    rw [List.drop_succ_cons]
    unfold firstS at h
    by_cases hr : r = some l
    · rw [if_pos hr] at h
      have : 0 = M := by simpa using h
      omega
    · rw [if_neg hr] at h
      cases e : firstS rs l with
      | none => rw [e] at h; cases h
      | some j =>
        rw [e] at h
        have hj : j + 1 = M := by simpa using h
        rw [firstS_drop l rs g j e (by omega)]
        congr 1
        omega
def pih (len gap at_ : Nat) : Pt → Pt
  | .at .fin n => if at_ < gap then .at .fin (n - ((len : Int) - gap)) else .at .fin n
  | .at .num n => if gap ≤ at_ then .at .num (n - gap) else .at .num n
  | p => p
def locL (ls : List (Option Str)) (gap at_ : Nat) : List (Option Str) := if at_ < gap then ls.take gap else ls.drop gap
def offG (gap at_ : Nat) : Nat := if at_ < gap then 0 else gap
/-- q of the half becomes p of the list, and means the same -/
def Org (w : Ws) (ls : List (Option Str)) (gap at_ : Nat) (p q : Pt) : Prop := ∃ m, meansL (locL ls gap at_) (at_ - offG gap at_) q = some m ∧ keepO w false q (at_ : Int) (some (offG gap at_ + m)) (ls.length : Int) = p ∧ meansL ls at_ p = some (offG gap at_ + m)
theorem loc_len {ls : List (Option Str)} {gap at_ : Nat} (hg : gap ≤ ls.length) : (locL ls gap at_).length = if at_ < gap then gap else ls.length - gap := by
  unfold locL
  split
  · rw [List.length_take]; omega
  · rw [List.length_drop]
theorem keepO_at (w : Ws) (k : Kd) (x here : Int) (t : Nat) (many : Int) : ∃ n, keepO w false (.at k x) here (some t) many = .at k n ∧ ((w.of k = "raw" ∧ n = x) ∨ (w.of k ≠ "raw" ∧ ((pointI here t many k < lowK k ∧ n = x) ∨ (¬ pointI here t many k < lowK k ∧ n = pointI here t many k)))) := by
  show ∃ n, keepP (w.of k) false k x here t many = _ ∧ _
  unfold keepP
  by_cases h : w.of k = "raw"
  · exact ⟨x, if_pos (.inl h), .inl ⟨h, rfl⟩⟩
  · rw [if_neg (by rintro (z | z); exact h z; exact absurd z.2 (by decide))]
    by_cases h2 : pointI here t many k < lowK k
    · exact ⟨x, if_pos h2, .inr ⟨h, .inl ⟨h2, rfl⟩⟩⟩
    · exact ⟨_, if_neg h2, .inr ⟨h, .inr ⟨h2, rfl⟩⟩⟩
theorem meansL_at {ls : List (Option Str)} {at_ : Nat} {k : Kd} {n : Int} {m : Nat} : meansL ls at_ (.at k n) = some m ↔ (spotI ls.length at_ n k = (m : Int) ∧ m < ls.length) := by
  simp only [meansL]
  constructor
  · intro h
    split at h
    · injection h with h
      omega
    · exact nomatch h
  · rintro ⟨h1, h2⟩
    rw [if_pos (by omega)]
    congr 1
    omega
theorem org_B {w : Ws} {ls : List (Option Str)} {gap at_ : Nat} {p q : Pt} (hg : gap ≤ ls.length) (ha : at_ < ls.length) (h : Org w ls gap at_ p q) : ∃ M, meansL ls at_ p = some M ∧ barsP w ls.length gap at_ M p = false ∧ q = pih ls.length gap at_ p := by
  obtain ⟨m, h1, h2, h3⟩ := h
  refine ⟨_, h3, ?_⟩
  have hml := meansL_lt h1
  rw [loc_len hg] at hml
  have hside : decide (offG gap at_ + m < gap) = decide (at_ < gap) := by
    unfold offG
    by_cases hs : at_ < gap
    · rw [if_pos hs] at hml ⊢
      rw [decide_eq_true hs, decide_eq_true (by omega)]
    · rw [if_neg hs, decide_eq_false hs, decide_eq_false (by omega)]
  have hb : barsP w ls.length gap at_ (offG gap at_ + m) p = barsQ w ls.length gap at_ p := if_pos hside
  rw [hb]
  cases q with
  | lab l =>
    have : Pt.lab l = p := h2
    subst this
    exact ⟨rfl, rfl⟩
  | «at» k x =>
    obtain ⟨n, e, hc⟩ := keepO_at w k x (at_ : Int) (offG gap at_ + m) (ls.length : Int)
    rw [e] at h2
    subst h2
    obtain ⟨a1, a2⟩ := meansL_at.mp h1
    obtain ⟨b1, b2⟩ := meansL_at.mp h3
    rw [loc_len hg] at a1
    unfold offG at *
    by_cases hs : at_ < gap
    · simp only [if_pos hs] at *
      cases k with
      | num =>
        simp only [spotI] at a1 b1
        have hx : x = n := by omega
        have : ¬ gap ≤ at_ := by omega
        exact ⟨by simp [barsQ, this], by simp [pih, this, hx]⟩
      | abv =>
        simp only [spotI] at a1 b1
        have hx : x = n := by omega
        exact ⟨rfl, by simp [pih, hx]⟩
      | blw =>
        simp only [spotI] at a1 b1
        have hx : x = n := by omega
        exact ⟨rfl, by simp [pih, hx]⟩
      | fin =>
        simp only [spotI] at a1 b1
        have hx : x = n - ((ls.length : Int) - gap) := by omega
        refine ⟨?_, by simp only [pih, if_pos hs, hx]⟩
        simp only [barsQ]
        by_cases hr : w.e = "raw"
        · have hn : n = x := by
            rcases hc with ⟨_, z⟩ | ⟨z, _⟩
            · exact z
            · exact absurd hr z
          have : ¬ gap < ls.length := by omega
          simp [this]
        · simp [hr]
    · simp only [if_neg hs] at *
      cases k with
      | num =>
        simp only [spotI] at a1 b1
        have hx : x = n - gap := by omega
        have hge : gap ≤ at_ := by omega
        refine ⟨?_, by simp only [pih, if_pos hge, hx]⟩
        simp only [barsQ]
        by_cases hr : w.n = "raw"
        · have hn : n = x := by
            rcases hc with ⟨_, z⟩ | ⟨z, _⟩
            · exact z
            · exact absurd hr z
          have : ¬ 0 < gap := by omega
          simp [this]
        · simp [hr]
      | abv =>
        simp only [spotI] at a1 b1
        have hx : x = n := by omega
        exact ⟨rfl, by simp [pih, hx]⟩
      | blw =>
        simp only [spotI] at a1 b1
        have hx : x = n := by omega
        exact ⟨rfl, by simp [pih, hx]⟩
      | fin =>
        simp only [spotI] at a1 b1
        have hx : x = n := by omega
        exact ⟨by simp [barsQ, hs], by simp only [pih, if_neg hs, hx]⟩
theorem org_A {w : Ws} {ls : List (Option Str)} {gap at_ M : Nat} {p : Pt} (hok : p.ok) (hlen : ls.length ≤ 10) (hg : gap ≤ ls.length) (ha : at_ < ls.length) (hm : meansL ls at_ p = some M) (hb : barsP w ls.length gap at_ M p = false) : Org w ls gap at_ p (pih ls.length gap at_ p) ∧ (pih ls.length gap at_ p).ok := by
  have hML := meansL_lt hm
  have hside : decide (M < gap) = decide (at_ < gap) := by
    unfold barsP at hb
    split at hb
    · assumption
    · cases hb
  have hq : barsQ w ls.length gap at_ p = false := by
    unfold barsP at hb
    rw [if_pos hside] at hb
    exact hb
  have hside' : M < gap ↔ at_ < gap := by
    by_cases h : at_ < gap
    · rw [decide_eq_true h] at hside
      exact ⟨fun _ => h, fun _ => of_decide_eq_true hside⟩
    · rw [decide_eq_false h] at hside
      exact ⟨fun z => absurd z (of_decide_eq_false hside), fun z => absurd z h⟩
  have hoff : offG gap at_ + (M - offG gap at_) = M := by
    unfold offG
    split <;> omega
  cases p with
  | lab l =>
    refine ⟨⟨M - offG gap at_, ?_, rfl, by rw [hoff]; exact hm⟩, hok⟩
    show firstS (locL ls gap at_) l = _
    unfold locL offG
    by_cases hs : at_ < gap
    · rw [if_pos hs, if_pos hs, Nat.sub_zero]
      exact firstS_take l ls gap M hm (hside'.mpr hs)
    · rw [if_neg hs, if_neg hs]
      exact firstS_drop l ls gap M hm (by omega)
  | «at» k n =>
    obtain ⟨b1, b2⟩ := meansL_at.mp hm
    obtain ⟨o1, o2⟩ := hok
    have key : ∀ x : Int, pih ls.length gap at_ (.at k n) = .at k x → (w.of k = "raw" → x = n) → spotI (locL ls gap at_).length ((at_ - offG gap at_ : Nat) : Int) x k = ((M - offG gap at_ : Nat) : Int) → (lowK k ≤ x ∧ x ≤ 9) → Org w ls gap at_ (.at k n) (pih ls.length gap at_ (.at k n)) ∧ (pih ls.length gap at_ (.at k n)).ok := by
      intro x e hraw hsp hxo
      rw [e]
      refine ⟨⟨M - offG gap at_, ?_, ?_, by rw [hoff]; exact hm⟩, hxo⟩
      · refine meansL_at.mpr ⟨hsp, ?_⟩
        rw [loc_len hg]
        unfold offG
        split <;> omega
      · rw [hoff]
        obtain ⟨z, e2, hc⟩ := keepO_at w k x (at_ : Int) M (ls.length : Int)
        rw [e2]
        congr 1
        rcases hc with ⟨hr, hz⟩ | ⟨hr, ⟨hl, hz⟩ | ⟨hl, hz⟩⟩
        · rw [hz]; exact hraw hr
        · exfalso
          cases k <;> simp only [pointI, lowK, spotI] at hl b1 o1 <;> omega
        · rw [hz]
          cases k <;> simp only [pointI, spotI] at b1 ⊢ <;> omega
    have hll := loc_len (at_ := at_) hg
    by_cases hs : at_ < gap
    · have hoffv : offG gap at_ = 0 := if_pos hs
      have hlv : (locL ls gap at_).length = gap := by rw [hll, if_pos hs]
      have hMg := hside'.mpr hs
      cases k with
      | num =>
        have hn : ¬ gap ≤ at_ := by omega
        refine key n (by simp only [pih, if_neg hn]) (fun _ => rfl) ?_ ⟨o1, o2⟩
        rw [hoffv]
        simp only [spotI] at b1 ⊢
        omega
      | abv =>
        refine key n rfl (fun _ => rfl) ?_ ⟨o1, o2⟩
        rw [hoffv]
        simp only [spotI] at b1 ⊢
        omega
      | blw =>
        refine key n rfl (fun _ => rfl) ?_ ⟨o1, o2⟩
        rw [hoffv]
        simp only [spotI] at b1 ⊢
        omega
      | fin =>
        simp only [spotI] at b1
        refine key (n - ((ls.length : Int) - gap)) (by simp only [pih, if_pos hs]) (fun hr => ?_) ?_ ?_
        · simp only [Ws.of] at hr
          simp only [barsQ, hs, hr, decide_true, Bool.true_and, Bool.and_true, decide_eq_false_iff_not] at hq
          omega
        · rw [hoffv, hlv]
          simp only [spotI]
          omega
        · simp only [lowK]
          omega
    · have hoffv : offG gap at_ = gap := if_neg hs
      have hlv : (locL ls gap at_).length = ls.length - gap := by rw [hll, if_neg hs]
      have hMg : gap ≤ M := by omega
      cases k with
      | num =>
        have hge : gap ≤ at_ := by omega
        simp only [spotI] at b1
        refine key (n - gap) (by simp only [pih, if_pos hge]) (fun hr => ?_) ?_ ?_
        · simp only [Ws.of] at hr
          simp only [barsQ, hge, hr, decide_true, Bool.true_and, Bool.and_true, decide_eq_false_iff_not] at hq
          omega
        · rw [hoffv]
          simp only [spotI]
          omega
        · simp only [lowK]
          omega
      | abv =>
        refine key n rfl (fun _ => rfl) ?_ ⟨o1, o2⟩
        rw [hoffv]
        simp only [spotI] at b1 ⊢
        omega
      | blw =>
        refine key n rfl (fun _ => rfl) ?_ ⟨o1, o2⟩
        rw [hoffv]
        simp only [spotI] at b1 ⊢
        omega
      | fin =>
        refine key n (by simp only [pih, if_neg hs]) (fun _ => rfl) ?_ ⟨o1, o2⟩
        rw [hoffv, hlv]
        simp only [spotI] at b1 ⊢
        omega
end Pu

/-! text: Q21 -/
set_option Elab.async false
set_option linter.all false
set_option maxRecDepth 100000
set_option maxHeartbeats 4000000
namespace Pu
open PySem PySem.Spec L2 Sm Wk
theorem pointer_in_half (p : Pt) (rs : List Row) (gap at_ : Nat) (S : Sto) : m_pointer_in_half [p.d, rowsD rs, .int (gap : Int), .int (at_ : Int)] S = .ok (pih rs.length gap at_ p).d S := by
  unfold m_pointer_in_half b_pointer_in_half rowsD
  cases p with
  | lab l => simp [Pt.d, pih]
  | «at» k n =>
    by_cases h : at_ < gap
    · have h2 : ¬ gap ≤ at_ := by omega
      cases k <;> simp [Pt.d, Kd.s, pih, h, h2]
    · have h2 : gap ≤ at_ := by omega
      cases k <;> simp [Pt.d, Kd.s, pih, h, h2]
def halfRow (len gap i : Nat) (r : Row) : Row := ⟨r.lab, r.pts.map (pih len gap i)⟩
def mapH (len gap : Nat) : Nat → List Row → List Row
  | _, [] => []
  | s, r :: rs => halfRow len gap s r :: mapH len gap (s + 1) rs
theorem mapH_len (len gap : Nat) : ∀ (s : Nat) (rs : List Row), (mapH len gap s rs).length = rs.length
  | _, [] => rfl
  | s, r :: rs => by simp [mapH, mapH_len len gap (s + 1) rs]
theorem mapH_app (len gap : Nat) (b : List Row) : ∀ (a : List Row) (s : Nat), mapH len gap s (a ++ b) = mapH len gap s a ++ mapH len gap (s + a.length) b
  | [], s => by simp [mapH]
  | x :: a, s => by
    simp only [List.cons_append, mapH, mapH_app len gap b a (s + 1), List.length_cons]
    rw [show s + 1 + a.length = s + (a.length + 1) by omega]
theorem mapH_get (len gap : Nat) : ∀ (s : Nat) (rs : List Row) (i : Nat), (mapH len gap s rs)[i]? = rs[i]?.map (halfRow len gap (s + i))
  | _, [], i => by simp [mapH]
  | s, r :: rs, 0 => by simp [mapH]
  | s, r :: rs, i + 1 => by
    simp only [mapH, List.getElem?_cons_succ, mapH_get len gap (s + 1) rs i]
    rw [show s + 1 + i = s + (i + 1) by omega]
def HA (rs : List Row) (gap : Nat) : List Row := mapH rs.length gap 0 (rs.take gap)
def HB (rs : List Row) (gap : Nat) : List Row := mapH rs.length gap gap (rs.drop gap)
theorem H_split (rs : List Row) (gap : Nat) (hg : gap ≤ rs.length) : mapH rs.length gap 0 rs = HA rs gap ++ HB rs gap := by
  have h := mapH_app rs.length gap (rs.drop gap) (rs.take gap) 0
  rw [List.take_append_drop, List.length_take, Nat.min_eq_left hg, Nat.zero_add] at h
  exact h
theorem HA_len (rs : List Row) (gap : Nat) (hg : gap ≤ rs.length) : (HA rs gap).length = gap := by
  unfold HA
  rw [mapH_len, List.length_take]
  omega
theorem HB_len (rs : List Row) (gap : Nat) : (HB rs gap).length = rs.length - gap := by
  unfold HB
  rw [mapH_len, List.length_drop]
theorem half_loop (rs0 : List Row) (gap : Nat) (hpt : ∀ r ∈ rs0, r.pts.length ≤ 2) (pl : Slot) (S : Sto) : ∀ (sub : List Row) (s : Nat) (acc : List Row) (x4 x5 x6 x7 : Slot), (∀ (i : Nat) r, sub[i]? = some r → rs0[s + i]? = some r) → acc.length + sub.length ≤ 100 →
    ∃ y4 y5 y6 y7, Sm.forM (.one 4) lp_half_of_0 (rng (s : Int) sub.length) [.val (rowsD rs0), .val (.int (gap : Int)), pl, .own (acc.map Row.d), x4, x5, x6, x7] S = .ok (.nx [.val (rowsD rs0), .val (.int (gap : Int)), pl, .own ((acc ++ mapH rs0.length gap s sub).map Row.d), y4, y5, y6, y7]) S
  | [], s, acc, x4, x5, x6, x7, _, _ => ⟨x4, x5, x6, x7, by simp [mapH, rng]⟩
  | r :: sub, s, acc, x4, x5, x6, x7, hv, hc => by
    simp only [List.length_cons] at hc
    have hr : rs0[s]? = some r := by simpa using hv 0 r rfl
    have e1 : L2.atI (rs0.map Row.d) (s : Int) = some r.d := e_atS (by simp [hr])
    have c1 : acc.length < 100000 := by omega
    obtain ⟨y4, y5, y6, y7, ih⟩ := half_loop rs0 gap hpt pl S sub (s + 1) (acc ++ [halfRow rs0.length gap s r]) (.val (.int (s : Int))) (.val (labD r.lab)) (.val (.tup (r.pts.map Pt.d))) x7 (fun i q hq => by rw [show s + 1 + i = s + (i + 1) by omega]; exact hv (i + 1) q (by simpa using hq)) (by simp; omega)
    have hl := lc_map (S := S) (bnd := fun d => bindD (.one 7) d (wipeE [.val (rowsD rs0), .val (.int (gap : Int)), pl, .own (acc.map Row.d), .val (.int (s : Int)), .val (labD r.lab), .val (.tup (r.pts.map Pt.d)), x7] [7])) (e := ce_half_of_0) (f := Pt.d) (g := fun p => (pih rs0.length gap s p).d) r.pts fun p _ => by
      have hp := pointer_in_half p rs0 gap s
      exact ⟨_, rfl, by unfold ce_half_of_0; simp [wipeE, hp]⟩
    refine ⟨y4, y5, y6, y7, ?_⟩
    rw [List.length_cons, rng_cons, e_forC]
    have eb : bindD (.one 4) (.int (s : Int)) [.val (rowsD rs0), .val (.int (gap : Int)), pl, .own (acc.map Row.d), x4, x5, x6, x7] = some [.val (rowsD rs0), .val (.int (gap : Int)), pl, .own (acc.map Row.d), .val (.int (s : Int)), x5, x6, x7] := rfl
    rw [eb]
    dsimp only
    have key : lp_half_of_0 [.val (rowsD rs0), .val (.int (gap : Int)), pl, .own (acc.map Row.d), .val (.int (s : Int)), x5, x6, x7] S = .ok (.nx [.val (rowsD rs0), .val (.int (gap : Int)), pl, .own ((acc ++ [halfRow rs0.length gap s r]).map Row.d), .val (.int (s : Int)), .val (labD r.lab), .val (.tup (r.pts.map Pt.d)), x7]) S := by
      unfold lp_half_of_0
      simp only [rowsD] at hl ⊢
      simp [e1, Row.d, hl, c1, halfRow, Function.comp]
    rw [key]
    dsimp only
    rw [show (s : Int) + 1 = ((s + 1 : Nat) : Int) by omega, ih]
    simp [mapH]
theorem half_of (rs : List Row) (hl : rs.length ≤ 6) (gap s : Nat) (hpt : ∀ r ∈ rs, r.pts.length ≤ 2) (sub : List Row) (hv : ∀ (i : Nat) r, sub[i]? = some r → rs[s + i]? = some r) (hs : sub.length ≤ 6) (hok : ∀ r ∈ mapH rs.length gap s sub, r.ok) (S : Sto) : m_half_of [rowsD rs, .int (gap : Int), .lst (rng (s : Int) sub.length)] S = .ok (stepsD (mapH rs.length gap s sub)) S := by
  obtain ⟨y4, y5, y6, y7, h⟩ := half_loop rs gap hpt (.val (.lst (rng (s : Int) sub.length))) S sub s [] .no .no .no .no hv (by simp; omega)
  have hi := steps_init (mapH rs.length gap s sub) hok (by rw [mapH_len]; exact hs)
  simp only [List.map_nil, List.nil_append] at h
  unfold m_half_of
  rw [n_half_of]
  simp only [rowsD] at hi h ⊢
  simp [h, hi, stepsD, rowsD]
theorem halves_of (rs : List Row) (hl : rs.length ≤ 6) (gap : Nat) (hg : gap ≤ rs.length) (hpt : ∀ r ∈ rs, r.pts.length ≤ 2) (hok : ∀ r ∈ mapH rs.length gap 0 rs, r.ok) (S : Sto) : m_halves_of [rowsD rs, .int (gap : Int)] S = .ok (.tup [stepsD (HA rs gap), stepsD (HB rs gap)]) S := by
  rw [H_split rs gap hg] at hok
  have hA := half_of rs hl gap 0 hpt (rs.take gap) (fun i r h => by
    rw [Nat.zero_add]
    rw [List.getElem?_take] at h
    split at h
    · exact h
    · cases h) (by rw [List.length_take]; omega) (fun r hr => hok r (List.mem_append_left _ hr))
  have hB := half_of rs hl gap gap hpt (rs.drop gap) (fun i r h => by
    rw [List.getElem?_drop] at h
    exact h) (by rw [List.length_drop]; omega) (fun r hr => hok r (List.mem_append_right _ hr))
  rw [List.length_take, Nat.min_eq_left hg] at hA
  rw [List.length_drop] at hB
  have hrg : ∀ (ρ : Sm.Env) (S : Sto), ρ[1]? = some (.val (.int (gap : Int))) → listRgM (vl ρ 1) S = .ok (rng 0 gap) S := fun ρ S h => by
    have hv : vl ρ 1 S = .ok (.int (gap : Int)) S := by simp [h]
    unfold listRgM bd
    rw [hv]
    show (if 0 ≤ (gap : Int) ∧ (gap : Int) ≤ 100000 then _ else _) = _
    rw [if_pos (by omega)]
    simp
  have hrg2 : ∀ (ρ : Sm.Env) (S : Sto), ρ[1]? = some (.val (.int (gap : Int))) → ρ[0]? = some (.val (rowsD rs)) → listRg2M (vl ρ 1) (c1 lenD (consM (vb ρ 0) (rt []))) S = .ok (rng gap (rs.length - gap)) S := fun ρ S h h0 => by
    have hv : vl ρ 1 S = .ok (.int (gap : Int)) S := by simp [h]
    have this : (c1 lenD (consM (vb ρ 0) (rt []))) S = .ok (.int rs.length) S := by simp [h0, rowsD]
    unfold listRg2M bd
    rw [hv]
    dsimp only
    rw [this]
    show (if 0 ≤ (gap : Int) ∧ (gap : Int) ≤ 100000 ∧ 0 ≤ (rs.length : Int) ∧ (rs.length : Int) ≤ 100000 then _ else _) = _
    rw [if_pos (by omega)]
    congr 2
    omega
  unfold m_halves_of b_halves_of
  simp only [Int.natCast_zero] at hA
  simp only [HA, HB]
  simp [hrg, hrg2, hA, hB]
end Pu

/-! text: Q22 -/
set_option Elab.async false
set_option linter.all false
set_option maxRecDepth 100000
set_option maxHeartbeats 4000000
namespace Pu
open PySem PySem.Spec L2 Sm Wk
theorem kd_inj {a b : Kd} (h : a.s = b.s) : a = b := by
  cases a <;> cases b <;> first | rfl | simp [Kd.s] at h
theorem ks_lab (k : Kd) : (k.s = "label") = False := by cases k <;> simp [Kd.s]
theorem lab_ks (k : Kd) : (("label" : Str) = k.s) = False := by cases k <;> simp [Kd.s]
theorem pt_inj {a b : Pt} : a.d = b.d ↔ a = b := by
  constructor
  · intro h
    cases a with
    | lab l => cases b with
      | lab l' => simp [Pt.d] at h; rw [h]
      | «at» k n => simp [Pt.d, lab_ks] at h
    | «at» k n => cases b with
      | lab l' => simp [Pt.d, ks_lab] at h
      | «at» k' n' =>
        simp [Pt.d] at h
        rw [kd_inj h.1, h.2]
  · intro h; rw [h]
theorem pts_inj : ∀ {a b : List Pt}, a.map Pt.d = b.map Pt.d ↔ a = b
  | [], [] => by simp
  | [], b :: bs => by simp
  | a :: as, [] => by simp
  | a :: as, b :: bs => by simp [pt_inj, pts_inj]
theorem row_inj {a b : Row} : a.d = b.d ↔ a = b := by
  obtain ⟨l, ps⟩ := a
  obtain ⟨l', ps'⟩ := b
  have e : labD l = labD l' ↔ l = l' := by cases l <;> cases l' <;> simp [labD]
  simp [Row.d, e, pts_inj]
theorem rows_inj : ∀ {a b : List Row}, a.map Row.d = b.map Row.d ↔ a = b
  | [], [] => by simp
  | [], b :: bs => by simp
  | a :: as, [] => by simp
  | a :: as, b :: bs => by simp [row_inj, rows_inj]
theorem spots_inj : ∀ {a b : List (Nat × Nat)}, a.map spD = b.map spD ↔ a = b
  | [], [] => by simp
  | [], b :: bs => by simp
  | a :: as, [] => by simp
  | a :: as, b :: bs => by
    rw [List.map_cons, List.map_cons, List.cons.injEq, List.cons.injEq, spD_inj, spots_inj]
theorem pt_clean (p : Pt) : clean 1 p.d = true := by cases p <;> simp [Pt.d, clean]
theorem pts_clean (ps : List Pt) : clean 2 (.tup (ps.map Pt.d)) = true := by
  simp only [clean, List.all_map, List.all_eq_true]
  intro p _
  exact pt_clean p
theorem row_clean (r : Row) : clean 3 r.d = true := by
  have h := pts_clean r.pts
  cases hl : r.lab <;> simp [Row.d, hl, labD, clean] at h ⊢ <;> exact h
theorem rows_clean (rs : List Row) : clean 4 (rowsD rs) = true := by
  simp only [rowsD, clean, List.all_map, List.all_eq_true]
  intro p _
  exact row_clean p
theorem bool_eq {b : Bool} {P : Prop} [Decidable P] (h : b = true ↔ P) : b = decide P := by
  by_cases hp : P
  · rw [decide_eq_true hp]; exact h.mpr hp
  · rw [decide_eq_false hp, Bool.eq_false_iff]; exact fun z => hp (h.mp z)
theorem pts_eq (a b : List Pt) (S : Sto) : eqD (.tup (a.map Pt.d)) (.tup (b.map Pt.d)) S = some (.bl (decide (a = b))) := by
  obtain ⟨z, h1, h2, h3⟩ := eq_clean (by decide : 2 ≤ 60) (pts_clean a) (pts_clean b)
  rw [h1]
  congr 2
  exact bool_eq (h3.trans (by simp [pts_inj]))
theorem rows_eq (a b : List Row) (S : Sto) : eqD (rowsD a) (rowsD b) S = some (.bl (decide (a = b))) ∧ neD (rowsD a) (rowsD b) S = some (.bl (!decide (a = b))) := by
  obtain ⟨z, h1, h2, h3⟩ := eq_clean (by decide : 4 ≤ 60) (rows_clean a) (rows_clean b)
  have : z = decide (a = b) := bool_eq (h3.trans (by simp [rowsD, rows_inj]))
  rw [h1, h2, this]
  exact ⟨rfl, rfl⟩
theorem pair_eq (a b : List Row) (l : List (Nat × Nat)) (S : Sto) : eqD (.tup [rowsD a, .lst (l.map spD)]) (.tup [rowsD b, .lst []]) S = some (.bl (decide (a = b ∧ l = []))) := by
  have c1 := rows_clean a
  have c2 := rows_clean b
  have up : ∀ (n : Nat) (d : D), clean n d = true → clean (n + 1) d = true := by
    intro n
    induction n with
    | zero => intro d h; cases d <;> simp [clean] at h ⊢
    | succ n ih =>
      intro d h
      cases d with
      | tup ds =>
        simp only [clean, List.all_eq_true] at h ⊢
        exact fun x hx => ih x (h x hx)
      | lst ds =>
        simp only [clean, List.all_eq_true] at h ⊢
        exact fun x hx => ih x (h x hx)
      | _ => first | rfl | (simp [clean] at h)
  have cl : clean 4 (.lst (l.map spD)) = true := up 3 _ (by simpa [clean] using spots_clean l)
  obtain ⟨z, h1, h2, h3⟩ := eq_clean (n := 5) (by decide) (d := .tup [rowsD a, .lst (l.map spD)]) (e := .tup [rowsD b, .lst []]) (by simp [clean, c1] at cl ⊢; exact cl) (by simp [clean, c2])
  rw [h1]
  congr 2
  exact bool_eq (h3.trans (by simp [rowsD, rows_inj]))
def bareL (at_ : Nat) (q : Pt) (rs : List Row) : List Row := (rs.zipIdx 0).map fun z => Row.mk z.1.lab (if z.2 = at_ then [q] else [])
theorem bareL_len (at_ : Nat) (q : Pt) (rs : List Row) : (bareL at_ q rs).length = rs.length := by simp [bareL]
theorem bareL_pts (at_ : Nat) (q : Pt) (rs : List Row) : ∀ r ∈ bareL at_ q rs, r.pts.length ≤ 1 := by
  intro r hr
  obtain ⟨z, _, rfl⟩ := List.mem_map.mp hr
  dsimp only
  split <;> simp
theorem bareL_lab (at_ : Nat) (q : Pt) (rs : List Row) : (bareL at_ q rs).map Row.lab = rs.map Row.lab := by
  unfold bareL
  rw [List.map_map]
  show (rs.zipIdx 0).map (Row.lab ∘ Prod.fst) = _
  rw [← List.map_map, List.zipIdx_map_fst]
theorem bareL_get (at_ : Nat) (q : Pt) (rs : List Row) (i : Nat) : (bareL at_ q rs)[i]? = rs[i]?.map fun r => Row.mk r.lab (if i = at_ then [q] else []) := by
  unfold bareL
  rw [List.getElem?_map, List.getElem?_zipIdx]
  cases rs[i]? <;> simp
theorem enum_map (rs : List Row) : ∀ s : Nat, enumL s (rs.map Row.d) = (rs.zipIdx s).map fun z => D.tup [.int (z.2 : Int), z.1.d] := by
  induction rs with
  | nil => intro s; rfl
  | cons r rs ih =>
    intro s
    rw [List.map_cons, enumL, ih (s + 1), List.zipIdx_cons, List.map_cons]
def itemD : Pt → D
  | .lab s => .str s
  | .at _ x => .int x
def cands : Pt → List Pt
  | .lab _ => [.lab "a", .lab "b", .lab "c", .lab "d"]
  | .at k _ => (List.range' (lowK k).toNat (10 - (lowK k).toNat)).map fun x : Nat => .at k (x : Int)
def kindD : Pt → Str
  | .lab _ => "label"
  | .at k _ => k.s
theorem pt_d (p : Pt) : p.d = .tup [.str (kindD p), itemD p] := by cases p <;> rfl
def origB (w : Ws) (rs : List Row) (gap at_ : Nat) (p q : Pt) : Bool :=
  whole ((bareL at_ q rs).take gap) && (whole ((bareL at_ q rs).drop gap) && ((lostJ w ((bareL at_ q rs).take gap) ((bareL at_ q rs).drop gap)).isEmpty && decide (((joinR w ((bareL at_ q rs).take gap) ((bareL at_ q rs).drop gap))[at_]?.map Row.pts) = some [p])))
def leO (w : Ws) (rs : List Row) (gap at_ pl : Nat) (p : Pt) (x4 x5 found x10 x11 x12 x13 x14 x15 x16 : Slot) : Sm.Env :=
  [.val w.d, .val (rowsD rs), .val (.int (gap : Int)), .val (.tup [.int (at_ : Int), .int (pl : Int)]), x4, x5, .val (.int (at_ : Int)), .val (.int (pl : Int)), .val p.d, found, x10, x11, x12, x13, x14, x15, x16]
theorem orig_step (w : Ws) (rs : List Row) (hl : rs.length ≤ 6) (gap at_ pl : Nat) (hg : gap ≤ rs.length) (ha : at_ < rs.length) (p q : Pt) (hk : kindD q = kindD p) (x4 : Slot) (acc : List Pt) (hc : acc.length < 1000) (x10 x11 x12 x13 x14 x15 x16 : Slot) (S : Sto) :
    ∃ y10 y11 y12 y13 y14, lp__law_origins_0 (leO w rs gap at_ pl p x4 (.val (itemD q)) (.own (acc.map Pt.d)) x10 x11 x12 x13 x14 x15 x16) S = .ok (.nx (leO w rs gap at_ pl p x4 (.val (itemD q)) (.own ((if origB w rs gap at_ p q = true then acc ++ [q] else acc).map Pt.d)) y10 y11 y12 y13 y14 x15 x16)) S := by
  obtain ⟨half, hh⟩ : ∃ h, (bareL at_ q rs).take gap = h := ⟨_, rfl⟩
  obtain ⟨rest, hr⟩ : ∃ h, (bareL at_ q rs).drop gap = h := ⟨_, rfl⟩
  have hhl : half.length = gap := by rw [← hh, List.length_take, bareL_len]; omega
  have hrl : rest.length = rs.length - gap := by rw [← hr, List.length_drop, bareL_len]
  have hhp : ∀ r ∈ half, r.pts.length ≤ 2 := fun r hx => by
    have := bareL_pts at_ q rs r (List.mem_of_mem_take (by rw [hh]; exact hx)); omega
  have hrp : ∀ r ∈ rest, r.pts.length ≤ 2 := fun r hx => by
    have := bareL_pts at_ q rs r (List.mem_of_mem_drop (by rw [hr]; exact hx)); omega
  have hlc := lc_map (S := S) (bnd := fun d => bindD (.tup [15, 16]) d (wipeE (leO w rs gap at_ pl p x4 (.val (itemD q)) (.own (acc.map Pt.d)) x10 x11 x12 x13 x14 x15 x16) [15, 16])) (e := ce__law_origins_0) (f := fun z : Row × Nat => D.tup [.int (z.2 : Int), z.1.d]) (g := fun z => (Row.mk z.1.lab (if z.2 = at_ then [q] else [])).d) (rs.zipIdx 0) fun z _ => by
    refine ⟨_, rfl, ?_⟩
    unfold ce__law_origins_0 leO
    have hI : decide ((z.2 : Int) = (at_ : Int)) = decide (z.2 = at_) := by
      by_cases h : z.2 = at_
      · rw [decide_eq_true h, decide_eq_true (by omega)]
      · rw [decide_eq_false h, decide_eq_false (by omega)]
    by_cases h : z.2 = at_
    · simp [wipeE, setsE, pt_d, Row.d, h, hk]
    · have h' : ¬ (z.2 : Int) = (at_ : Int) := by omega
      simp [wipeE, setsE, pt_d, Row.d, h, h']
  rw [← enum_map] at hlc
  have hb : (rs.zipIdx 0).map (fun z => (Row.mk z.1.lab (if z.2 = at_ then [q] else [])).d) = (bareL at_ q rs).map Row.d := by
    unfold bareL
    rw [List.map_map]
    rfl
  rw [hb] at hlc
  have ct := cut_to ((bareL at_ q rs).map Row.d) gap
  have cf := cut_from ((bareL at_ q rs).map Row.d) gap
  rw [← List.map_take, hh] at ct
  rw [← List.map_drop, hr] at cf
  have he := law_edited w half rest (by omega) hhp hrp
  have w1 := law_is_whole half (by omega) hhp
  have w2 := law_is_whole rest (by omega) hrp
  have nl := fun S => (eq_nilS (lostJ w half rest) S).1
  have hjl : at_ < (joinR w half rest).length := by rw [joinR_len]; omega
  obtain ⟨jr, hjr⟩ : ∃ r, (joinR w half rest)[at_]? = some r := ⟨_, List.getElem?_eq_getElem hjl⟩
  have e1 : L2.atI ((joinR w half rest).map Row.d) (at_ : Int) = some jr.d := e_atS (by simp [hjr])
  have e2 := pts_eq jr.pts [p]
  have hO : origB w rs gap at_ p q = (whole half && (whole rest && ((lostJ w half rest).isEmpty && decide (jr.pts = [p])))) := by
    unfold origB
    rw [hh, hr, hjr]
    simp
  have c1 : acc.length < 100000 := by omega
  rw [hO]
  refine ⟨.own ((bareL at_ q rs).map Row.d), .val (rowsD half), .val (rowsD rest), .val (rowsD (joinR w half rest)), .val (.lst ((lostJ w half rest).map spD)), ?_⟩
  unfold lp__law_origins_0
  simp only [rowsD, joinD, leO, List.map_cons, List.map_nil] at he w1 w2 hlc e2
  simp only [rowsD, leO]
  have hq : q.d = .tup [.str (kindD p), itemD q] := by rw [pt_d, hk]
  have hp0 : ∀ S, ixD p.d (.int 0) S = some (.str (kindD p)) := fun S => by rw [pt_d]; simp
  cases hA : whole half with
  | false =>
    rw [hA] at w1
    simp [hlc, ct, cf, he, w1]
  | true =>
    rw [hA] at w1
    cases hB : whole rest with
    | false =>
      rw [hB] at w2
      simp [hlc, ct, cf, he, w1, w2]
    | true =>
      rw [hB] at w2
      cases hC : (lostJ w half rest).isEmpty with
      | false =>
        rw [hC] at nl
        simp [hlc, ct, cf, he, w1, w2, nl]
      | true =>
        rw [hC] at nl
        by_cases hD : jr.pts = [p]
        · rw [decide_eq_true hD] at e2
          simp [hlc, ct, cf, he, w1, w2, nl, e1, Row.d, e2, hD, c1, hq, hp0]
          rw [hD] at e2
          simp only [List.map_cons, List.map_nil] at e2
          simp [e2, hq, c1, hp0]
        · rw [decide_eq_false hD] at e2
          simp [hlc, ct, cf, he, w1, w2, nl, e1, Row.d, e2, hD]
end Pu

/-! text: Q23 -/
set_option Elab.async false
set_option linter.all false
set_option maxRecDepth 100000
set_option maxHeartbeats 4000000
namespace Pu
open PySem PySem.Spec L2 Sm Wk
theorem orig_loop (w : Ws) (rs : List Row) (hl : rs.length ≤ 6) (gap at_ pl : Nat) (hg : gap ≤ rs.length) (ha : at_ < rs.length) (p : Pt) (x4 x15 x16 : Slot) (S : Sto) : ∀ (qs : List Pt) (acc : List Pt) (x5 x10 x11 x12 x13 x14 : Slot), (∀ q ∈ qs, kindD q = kindD p) → acc.length + qs.length ≤ 100 →
    ∃ y5 y10 y11 y12 y13 y14, Sm.forM (.one 5) lp__law_origins_0 (qs.map itemD) (leO w rs gap at_ pl p x4 x5 (.own (acc.map Pt.d)) x10 x11 x12 x13 x14 x15 x16) S = .ok (.nx (leO w rs gap at_ pl p x4 y5 (.own ((acc ++ qs.filter (origB w rs gap at_ p)).map Pt.d)) y10 y11 y12 y13 y14 x15 x16)) S
  | [], acc, x5, x10, x11, x12, x13, x14, _, _ => ⟨x5, x10, x11, x12, x13, x14, by simp⟩
  | q :: qs, acc, x5, x10, x11, x12, x13, x14, hk, hc => by
    simp only [List.length_cons] at hc
    obtain ⟨z10, z11, z12, z13, z14, hs⟩ := orig_step w rs hl gap at_ pl hg ha p q (hk q List.mem_cons_self) x4 acc (by omega) x10 x11 x12 x13 x14 x15 x16 S
    obtain ⟨y5, y10, y11, y12, y13, y14, ih⟩ := orig_loop w rs hl gap at_ pl hg ha p x4 x15 x16 S qs (if origB w rs gap at_ p q = true then acc ++ [q] else acc) (.val (itemD q)) z10 z11 z12 z13 z14 (fun q hq => hk q (List.mem_cons_of_mem _ hq)) (by split <;> (try simp) <;> omega)
    refine ⟨y5, y10, y11, y12, y13, y14, ?_⟩
    rw [List.map_cons, e_forC]
    have eb : bindD (.one 5) (itemD q) (leO w rs gap at_ pl p x4 x5 (.own (acc.map Pt.d)) x10 x11 x12 x13 x14 x15 x16) = some (leO w rs gap at_ pl p x4 (.val (itemD q)) (.own (acc.map Pt.d)) x10 x11 x12 x13 x14 x15 x16) := rfl
    rw [eb]
    dsimp only
    rw [hs]
    dsimp only
    rw [ih]
    by_cases hq : origB w rs gap at_ p q = true <;> simp [hq]
def oris (w : Ws) (rs : List Row) (gap at_ : Nat) (p : Pt) : List Pt := (cands p).filter (origB w rs gap at_ p)
theorem cands_kind (p : Pt) : ∀ q ∈ cands p, kindD q = kindD p := by
  intro q hq
  cases p with
  | lab l =>
    simp [cands] at hq
    rcases hq with rfl | rfl | rfl | rfl <;> rfl
  | «at» k n =>
    obtain ⟨x, _, rfl⟩ := List.mem_map.mp hq
    rfl
theorem cands_len (p : Pt) : (cands p).length ≤ 10 := by
  cases p with
  | lab l => simp [cands]
  | «at» k n => simp [cands]
theorem items_at (k : Kd) (n : Int) : (cands (.at k n)).map itemD = rng (lowK k) (10 - (lowK k).toNat) := by
  unfold cands rng
  rw [List.map_map, List.range_eq_range']
  cases k <;> rfl
theorem law_origins (w : Ws) (rs : List Row) (hl : rs.length ≤ 6) (gap at_ pl : Nat) (hg : gap ≤ rs.length) (p : Pt) (hp : ptAt rs at_ pl = some p) (S : Sto) : m__law_origins [w.d, rowsD rs, .int (gap : Int), .tup [.int (at_ : Int), .int (pl : Int)]] S = .ok (.lst ((oris w rs gap at_ p).map Pt.d)) S := by
  obtain ⟨r, e1, e2⟩ := ptAt_d hp
  have ha : at_ < rs.length := by
    unfold ptAt at hp
    obtain ⟨r, h1, _⟩ := Option.bind_eq_some_iff.mp hp
    exact (List.getElem?_eq_some_iff.mp h1).1
  have hcl := cands_len p
  obtain ⟨y5, y10, y11, y12, y13, y14, h⟩ := orig_loop w rs hl gap at_ pl hg ha p (.val (.lst ((cands p).map itemD))) .no .no S (cands p) [] .no .no .no .no .no .no (cands_kind p) (by simp; omega)
  simp only [List.map_nil, List.nil_append] at h
  unfold m__law_origins
  rw [n__law_origins]
  simp only [leO, rowsD] at h
  simp only [rowsD, oris]
  cases p with
  | lab l =>
    simp only [cands, List.map_cons, List.map_nil, itemD, Pt.d] at h e2
    simp [e1, e2, frzS, frzE, h, cands]
  | «at» k n =>
    have hi := items_at k n
    rw [hi] at h
    have hr : ∀ (i : Int) (m : M D), m S = .ok (.int (lowK k)) S → listRg2M m (rt (.int 10)) S = .ok (rng (lowK k) (10 - (lowK k).toNat)) S := fun i m hm => by
      unfold listRg2M bd
      rw [hm]
      cases k <;> rfl
    have hin : ∀ S, inD false (.str k.s) (.tup [.str "above", .str "below"]) S = some (.bl (decide (lowK k = 1))) := fun S => by
      rw [e_inS2]
      cases k <;> simp [Kd.s, lowK]
    simp only [Pt.d] at h e2
    have hks := ks_lab k
    have h10 : ∀ (ρ : Sm.Env), ρ[8]? = some (.val (.tup [.str k.s, .int n])) → listRg2M (bd (boolT (o2 (inD false) (o2 ixD (vb ρ 8) (rt (.int 0))) (tupM (consM (rt (.str "above")) (consM (rt (.str "below")) (rt [])))))) fun t => iteM t (rt (.int 1)) (rt (.int 0))) (rt (.int 10)) S = .ok (rng (lowK k) (10 - (lowK k).toNat)) S := fun ρ hρ => by
      refine hr 0 _ ?_
      simp [hρ, hin]
      cases k <;> rfl
    simp [e1, e2, frzS, frzE, hks, h10, h]
end Pu

/-! text: Q24 -/
set_option Elab.async false
set_option linter.all false
set_option maxRecDepth 100000
set_option maxHeartbeats 4000000
namespace Pu
open PySem PySem.Spec L2 Sm Wk
/-! ### joins, plainly -/
theorem whole_iff {L : List Row} : whole L = true ↔ ∀ (i : Nat) (r : Row) (j : Nat) (p : Pt), L[i]? = some r → r.pts[j]? = some p → ∃ m, means L i p = some m := by
  unfold whole
  rw [List.all_eq_true]
  constructor
  · intro h i r j p hi hj
    have hp : ptAt L i j = some p := by unfold ptAt; rw [hi]; exact hj
    have := h (i, j) (spots_mem.mpr ⟨p, hp⟩)
    unfold meanS at this
    rw [hp] at this
    exact Option.isSome_iff_exists.mp this
  · rintro h ⟨i, j⟩ hx
    obtain ⟨p, hp⟩ := spots_mem.mp hx
    have hp' := hp
    unfold ptAt at hp'
    obtain ⟨r, h1, h2⟩ := Option.bind_eq_some_iff.mp hp'
    obtain ⟨m, hm⟩ := h i r j p h1 h2
    unfold meanS
    rw [hp]
    exact Option.isSome_iff_exists.mpr ⟨m, hm⟩
theorem join_get_a {w : Ws} {a b : List Row} {i : Nat} {r : Row} (h : a[i]? = some r) : (joinR w a b)[i]? = some (Row.mk r.lab (r.pts.map (lateP w a 0 (a.length + b.length) i))) := by
  have hi := (List.getElem?_eq_some_iff.mp h).1
  unfold joinR
  rw [List.getElem?_append_left (by rw [rowsL_len]; exact hi), rowsL_get, h, Nat.zero_add]
  rfl
theorem join_get_b {w : Ws} {a b : List Row} {i : Nat} {r : Row} (h : b[i]? = some r) : (joinR w a b)[a.length + i]? = some (Row.mk r.lab (r.pts.map (lateP w b a.length (a.length + b.length) i))) := by
  unfold joinR
  rw [List.getElem?_append_right (by rw [rowsL_len]; omega), rowsL_len, rowsL_get, show a.length + i - a.length = i by omega, h, Nat.zero_add]
  rfl
theorem rowsL_lab (w : Ws) (lines : List Row) (off tot : Nat) : ∀ (s : Nat) (rs : List Row), (rowsL w lines off tot s rs).map Row.lab = rs.map Row.lab
  | _, [] => rfl
  | s, r :: rs => by simp [rowsL, rowsL_lab w lines off tot (s + 1) rs]
theorem join_lab (w : Ws) (a b : List Row) : (joinR w a b).map Row.lab = a.map Row.lab ++ b.map Row.lab := by
  unfold joinR
  rw [List.map_append, rowsL_lab, rowsL_lab]
/-- nothing goes astray in a part -/
def Calm (w : Ws) (a b lines : List Row) (off : Nat) : Prop := ∀ (i : Nat) (r : Row) (j : Nat) (p : Pt), lines[i]? = some r → r.pts[j]? = some p → ∀ m, means lines i p = some m → means (joinR w a b) (off + i) (lateP w lines off (a.length + b.length) i p) = some (off + m)
theorem lost_iff {w : Ws} {a b : List Row} : lostJ w a b = [] ↔ Calm w a b a 0 ∧ Calm w a b b a.length := by
  unfold lostJ
  rw [List.map_eq_nil_iff, List.filter_eq_nil_iff]
  have hd : ∀ (lines : List Row) (off i : Nat) (p p' : Pt) (h j : Nat), h = off + i → ptAt (joinR w a b) h j = some p' → (Due.lost (joinR w a b) ⟨h, j, means lines i p, nowP lines off i p⟩ = true ↔ ¬ ∀ m, means lines i p = some m → means (joinR w a b) (off + i) p' = some (off + m)) := by
    intro lines off i p p' h j e hp
    subst e
    unfold Due.lost
    dsimp only
    rw [hp]
    dsimp only
    unfold nowP
    cases hm : means lines i p with
    | none => simp
    | some m => simp
  constructor
  · intro h
    refine ⟨fun i r j p h1 h2 => ?_, fun i r j p h1 h2 => ?_⟩
    · have hp : ptAt (joinR w a b) (0 + i) j = some (lateP w a 0 (a.length + b.length) i p) := by
        unfold ptAt
        rw [Nat.zero_add, join_get_a h1]
        simp [h2]
      have hmem : (Due.mk (0 + (0 + i)) j (means a (0 + i) p) (nowP a 0 (0 + i) p)) ∈ duesJ a b := List.mem_append_left _ (duesL_mem.mpr ⟨i, r, j, p, h1, h2, rfl⟩)
      rw [show 0 + (0 + i) = 0 + i by omega] at hmem
      have := h _ hmem
      rw [show (0 + i) = i by omega] at this hp ⊢
      rw [hd a 0 i p _ i j (by omega) hp] at this
      rw [show 0 + i = i by omega] at this
      exact Classical.not_not.mp this
    · have hp : ptAt (joinR w a b) (a.length + i) j = some (lateP w b a.length (a.length + b.length) i p) := by
        unfold ptAt
        rw [join_get_b h1]
        simp [h2]
      have hmem : (Due.mk (a.length + (0 + i)) j (means b (0 + i) p) (nowP b a.length (0 + i) p)) ∈ duesJ a b := List.mem_append_right _ (duesL_mem.mpr ⟨i, r, j, p, h1, h2, rfl⟩)
      rw [show 0 + i = i by omega] at hmem
      have := h _ hmem
      rw [hd b a.length i p _ (a.length + i) j rfl hp] at this
      exact Classical.not_not.mp this
  · rintro ⟨hA, hB⟩ d hmem
    unfold duesJ at hmem
    rcases List.mem_append.mp hmem with hmem | hmem
    · obtain ⟨i, r, j, p, h1, h2, rfl⟩ := duesL_mem.mp hmem
      have hp : ptAt (joinR w a b) i j = some (lateP w a 0 (a.length + b.length) i p) := by
        unfold ptAt
        rw [join_get_a h1]
        simp [h2]
      rw [show 0 + (0 + i) = i by omega, show 0 + i = i by omega]
      rw [hd a 0 i p _ i j (by omega) hp]
      exact fun z => z (hA i r j p h1 h2)
    · obtain ⟨i, r, j, p, h1, h2, rfl⟩ := duesL_mem.mp hmem
      have hp : ptAt (joinR w a b) (a.length + i) j = some (lateP w b a.length (a.length + b.length) i p) := by
        unfold ptAt
        rw [join_get_b h1]
        simp [h2]
      rw [show 0 + i = i by omega]
      rw [hd b a.length i p _ (a.length + i) j rfl hp]
      exact fun z => z (hB i r j p h1 h2)
theorem take_lab (rs : List Row) (g : Nat) : (rs.take g).map Row.lab = (rs.map Row.lab).take g := List.map_take
theorem drop_lab (rs : List Row) (g : Nat) : (rs.drop g).map Row.lab = (rs.map Row.lab).drop g := List.map_drop
theorem bare_row {at_ : Nat} {q : Pt} {rs : List Row} {i j : Nat} {r : Row} {p : Pt} (h : (bareL at_ q rs)[i]? = some r) (hj : r.pts[j]? = some p) : i = at_ ∧ j = 0 ∧ p = q := by
  rw [bareL_get] at h
  cases hr : rs[i]? with
  | none => rw [hr] at h; cases h
  | some r' =>
    rw [hr] at h
    simp only [Option.map_some, Option.some.injEq] at h
    subst h
    dsimp only at hj
    split at hj
    · rename_i e
      cases j with
      | zero => simp at hj; exact ⟨e, rfl, hj.symm⟩
      | succ j => simp at hj
    · simp at hj
theorem orig_iff {w : Ws} {rs : List Row} {gap at_ : Nat} {p q : Pt} (hg : gap ≤ rs.length) (ha : at_ < rs.length) : origB w rs gap at_ p q = true ↔ Org w (rs.map Row.lab) gap at_ p q := by
  obtain ⟨bare, hbare⟩ : ∃ x, bareL at_ q rs = x := ⟨_, rfl⟩
  have hbl : bare.length = rs.length := by rw [← hbare, bareL_len]
  have hlab : bare.map Row.lab = rs.map Row.lab := by rw [← hbare, bareL_lab]
  obtain ⟨r0, hr0⟩ : ∃ r, rs[at_]? = some r := ⟨_, List.getElem?_eq_getElem ha⟩
  have hrow : bare[at_]? = some (Row.mk r0.lab [q]) := by rw [← hbare, bareL_get, hr0]; simp
  have honly : ∀ (i : Nat) (r : Row) (j : Nat) (p' : Pt), bare[i]? = some r → r.pts[j]? = some p' → i = at_ ∧ j = 0 ∧ p' = q := fun i r j p' h1 h2 => by
    rw [← hbare] at h1
    exact bare_row h1 h2
  obtain ⟨half, hh⟩ : ∃ h, bare.take gap = h := ⟨_, rfl⟩
  obtain ⟨rest, hr⟩ : ∃ h, bare.drop gap = h := ⟨_, rfl⟩
  have hhl : half.length = gap := by rw [← hh, List.length_take, hbl]; omega
  have hrl : rest.length = rs.length - gap := by rw [← hr, List.length_drop, hbl]
  have htot : half.length + rest.length = rs.length := by omega
  have labA : half.map Row.lab = (rs.map Row.lab).take gap := by rw [← hh, take_lab, hlab]
  have labB : rest.map Row.lab = (rs.map Row.lab).drop gap := by rw [← hr, drop_lab, hlab]
  have labJ : (joinR w half rest).map Row.lab = rs.map Row.lab := by rw [join_lab, labA, labB, List.take_append_drop]
  have getA : ∀ (i : Nat) (r : Row), half[i]? = some r → i < gap ∧ bare[i]? = some r := fun i r h => by
    have hi := (List.getElem?_eq_some_iff.mp h).1
    rw [← hh, List.getElem?_take] at h
    split at h
    · exact ⟨by omega, h⟩
    · cases h
  have getB : ∀ (i : Nat) (r : Row), rest[i]? = some r → bare[gap + i]? = some r := fun i r h => by
    rw [← hr, List.getElem?_drop] at h
    exact h
  have hB : origB w rs gap at_ p q = (whole half && (whole rest && ((lostJ w half rest).isEmpty && decide (((joinR w half rest)[at_]?.map Row.pts) = some [p])))) := by
    unfold origB
    rw [hbare, hh, hr]
  rw [hB]
  simp only [Bool.and_eq_true, decide_eq_true_eq, List.isEmpty_iff]
  unfold Org locL offG
  rw [lost_iff, whole_iff, whole_iff]
  by_cases hs : at_ < gap
  · simp only [if_pos hs, Nat.sub_zero, Nat.zero_add]
    have hra : half[at_]? = some (Row.mk r0.lab [q]) := by
      rw [← hh, List.getElem?_take, if_pos hs]; exact hrow
    have hjr := join_get_a (w := w) (b := rest) hra
    have hme : ∀ x, means half at_ x = meansL ((rs.map Row.lab).take gap) at_ x := fun x => by rw [means_eq, labA]
    have hmj : ∀ x, means (joinR w half rest) at_ x = meansL (rs.map Row.lab) at_ x := fun x => by rw [means_eq, labJ]
    have hlate : ∀ m, means half at_ q = some m → lateP w half 0 (half.length + rest.length) at_ q = keepO w false q (at_ : Int) (some m) ((rs.map Row.lab).length : Int) := fun m hm => by
      unfold lateP nowP
      rw [hm, htot, Nat.zero_add, List.length_map]
      simp
    constructor
    · rintro ⟨h1, h2, ⟨h3, h4⟩, h5⟩
      obtain ⟨m, hm⟩ := h1 at_ _ 0 q hra rfl
      have h3' := h3 at_ _ 0 q hra rfl m hm
      rw [hjr] at h5
      simp only [Option.map_some, List.map_cons, List.map_nil, Option.some.injEq, List.cons.injEq, and_true] at h5
      rw [h5] at h3'
      rw [hlate m hm] at h5
      refine ⟨m, by rw [← hme]; exact hm, h5, ?_⟩
      rw [← hmj]
      simpa using h3'
    · rintro ⟨m, hm, hk, hM⟩
      rw [← hme] at hm
      have hl := hlate m hm
      rw [hk] at hl
      refine ⟨fun i r j p' e1 e2 => ?_, fun i r j p' e1 e2 => ?_, ⟨fun i r j p' e1 e2 m' hm' => ?_, fun i r j p' e1 e2 => ?_⟩, ?_⟩
      · obtain ⟨rfl, rfl, rfl⟩ := honly i r j p' (getA i r e1).2 e2
        exact ⟨m, hm⟩
      · have := (honly _ r j p' (getB i r e1) e2).1
        omega
      · obtain ⟨rfl, rfl, rfl⟩ := honly i r j p' (getA i r e1).2 e2
        rw [hm] at hm'
        cases hm'
        rw [hl, Nat.zero_add, hmj, hM, Nat.zero_add]
      · have := (honly _ r j p' (getB i r e1) e2).1
        omega
      · rw [hjr]
        simp [hl]
  · simp only [if_neg hs]
    have hra : rest[at_ - gap]? = some (Row.mk r0.lab [q]) := by
      rw [← hr, List.getElem?_drop, show gap + (at_ - gap) = at_ by omega]; exact hrow
    have hjr := join_get_b (w := w) (a := half) hra
    rw [hhl, show gap + (at_ - gap) = at_ by omega] at hjr
    have hme : ∀ x, means rest (at_ - gap) x = meansL ((rs.map Row.lab).drop gap) (at_ - gap) x := fun x => by rw [means_eq, labB]
    have hmj : ∀ x, means (joinR w half rest) at_ x = meansL (rs.map Row.lab) at_ x := fun x => by rw [means_eq, labJ]
    have hlate : ∀ m, means rest (at_ - gap) q = some m → lateP w rest gap (gap + rest.length) (at_ - gap) q = keepO w false q (at_ : Int) (some (gap + m)) ((rs.map Row.lab).length : Int) := fun m hm => by
      unfold lateP nowP
      rw [hm, show gap + rest.length = rs.length by omega, show gap + (at_ - gap) = at_ by omega, List.length_map]
      simp
    constructor
    · rintro ⟨h1, h2, ⟨h3, h4⟩, h5⟩
      obtain ⟨m, hm⟩ := h2 (at_ - gap) _ 0 q hra rfl
      have h4' := h4 (at_ - gap) _ 0 q hra rfl m hm
      rw [hhl] at h4'
      rw [hjr] at h5
      simp only [Option.map_some, List.map_cons, List.map_nil, Option.some.injEq, List.cons.injEq, and_true] at h5
      rw [h5, show gap + (at_ - gap) = at_ by omega] at h4'
      rw [hlate m hm] at h5
      refine ⟨m, by rw [← hme]; exact hm, h5, ?_⟩
      rw [← hmj]
      exact h4'
    · rintro ⟨m, hm, hk, hM⟩
      rw [← hme] at hm
      have hl := hlate m hm
      rw [hk] at hl
      refine ⟨fun i r j p' e1 e2 => ?_, fun i r j p' e1 e2 => ?_, ⟨fun i r j p' e1 e2 m' hm' => ?_, fun i r j p' e1 e2 m' hm' => ?_⟩, ?_⟩
      · have := (honly i r j p' (getA i r e1).2 e2).1
        have := (getA i r e1).1
        omega
      · obtain ⟨h1, rfl, rfl⟩ := honly _ r j p' (getB i r e1) e2
        have : i = at_ - gap := by omega
        subst this
        exact ⟨m, hm⟩
      · have := (honly i r j p' (getA i r e1).2 e2).1
        have := (getA i r e1).1
        omega
      · obtain ⟨h1, rfl, rfl⟩ := honly _ r j p' (getB i r e1) e2
        have : i = at_ - gap := by omega
        subst this
        rw [hm] at hm'
        cases hm'
        rw [hhl, hl, show gap + (at_ - gap) = at_ by omega, hmj, hM]
      · rw [hjr]
        simp [hl]
end Pu

/-! text: Q25 -/
set_option Elab.async false
set_option linter.all false
set_option maxRecDepth 100000
set_option maxHeartbeats 4000000
namespace Pu
open PySem PySem.Spec L2 Sm Wk
theorem filter_one {α : Type} [DecidableEq α] {f : α → Bool} {x : α} : ∀ {xs : List α}, xs.Nodup → x ∈ xs → (∀ y ∈ xs, f y = true ↔ y = x) → xs.filter f = [x]
  | [], _, h, _ => by cases h
  | y :: ys, nd, h, hf => by
    rw [List.nodup_cons] at nd
    by_cases e : y = x
    · subst e
      rw [List.filter_cons_of_pos ((hf y List.mem_cons_self).mpr rfl)]
      congr 1
      rw [List.filter_eq_nil_iff]
      intro z hz hfz
      have := (hf z (List.mem_cons_of_mem _ hz)).mp hfz
      subst this
      exact nd.1 hz
    · have hm : x ∈ ys := by
        rcases List.mem_cons.mp h with z | z
        · exact absurd z.symm e
        · exact z
      rw [List.filter_cons_of_neg (fun z => e ((hf y List.mem_cons_self).mp z))]
      exact filter_one nd.2 hm fun z hz => hf z (List.mem_cons_of_mem _ hz)
theorem cands_nodup (p : Pt) : (cands p).Nodup := by
  cases p with
  | lab l =>
    unfold cands
    simp
    decide +kernel
  | «at» k n =>
    unfold cands List.Nodup
    rw [List.pairwise_map]
    refine (List.nodup_range' (n := 10 - (lowK k).toNat) (s := (lowK k).toNat) (step := 1) (by decide)).imp ?_
    intro a b h e
    simp at e
    omega
theorem mem_cands {p q : Pt} (hk : kindD q = kindD p) (ho : q.ok) : q ∈ cands p := by
  cases p with
  | lab l =>
    cases q with
    | lab l' =>
      unfold cands
      rcases ho with rfl | rfl | rfl | rfl <;> simp
    | «at» k n => simp [kindD, ks_lab] at hk
  | «at» k n =>
    cases q with
    | lab l' => simp [kindD, lab_ks] at hk
    | «at» k' n' =>
      have : k' = k := kd_inj hk
      subst this
      obtain ⟨h1, h2⟩ := ho
      unfold cands
      refine List.mem_map.mpr ⟨n'.toNat, ?_, ?_⟩
      · rw [List.mem_range'_1]
        cases k' <;> simp only [lowK] at h1 ⊢ <;> omega
      · congr 1
        cases k' <;> simp only [lowK] at h1 <;> omega
theorem pih_kind (len gap at_ : Nat) (p : Pt) : kindD (pih len gap at_ p) = kindD p := by
  cases p with
  | lab l => rfl
  | «at» k n =>
    cases k <;> simp only [pih] <;> (try split) <;> rfl
theorem oris_eq (w : Ws) (rs : List Row) (hl : rs.length ≤ 6) (gap at_ pl : Nat) (hg : gap ≤ rs.length) (p : Pt) (hp : ptAt rs at_ pl = some p) (hok : p.ok) : (bars w rs gap (at_, pl) = true → oris w rs gap at_ p = []) ∧ (bars w rs gap (at_, pl) = false → oris w rs gap at_ p = [pih rs.length gap at_ p] ∧ (pih rs.length gap at_ p).ok) := by
  have ha : at_ < rs.length := by
    unfold ptAt at hp
    obtain ⟨r, h1, _⟩ := Option.bind_eq_some_iff.mp hp
    exact (List.getElem?_eq_some_iff.mp h1).1
  have hll : (rs.map Row.lab).length = rs.length := List.length_map ..
  have hbM : ∀ M, meansL (rs.map Row.lab) at_ p = some M → bars w rs gap (at_, pl) = barsP w rs.length gap at_ M p := fun M hM => by
    unfold bars
    dsimp only
    rw [hp]
    dsimp only
    rw [means_eq, hM]
  have hOB : ∀ q, Org w (rs.map Row.lab) gap at_ p q → bars w rs gap (at_, pl) = false ∧ q = pih rs.length gap at_ p := fun q ho => by
    obtain ⟨M, h1, h2, h3⟩ := org_B (by rw [hll]; exact hg) (by rw [hll]; exact ha) ho
    rw [hll] at h2 h3
    rw [hbM M h1]
    exact ⟨h2, h3⟩
  constructor
  · intro hb
    unfold oris
    rw [List.filter_eq_nil_iff]
    intro q _ hq
    have := (hOB q ((orig_iff hg ha).mp hq)).1
    rw [hb] at this
    cases this
  · intro hb
    obtain ⟨M, hM⟩ : ∃ M, meansL (rs.map Row.lab) at_ p = some M := by
      cases hm : meansL (rs.map Row.lab) at_ p with
      | some M => exact ⟨M, rfl⟩
      | none =>
        exfalso
        unfold bars at hb
        dsimp only at hb
        rw [hp] at hb
        dsimp only at hb
        rw [means_eq, hm] at hb
        cases hb
    obtain ⟨ho, hpo⟩ := org_A (w := w) hok (by rw [hll]; omega) (by rw [hll]; exact hg) (by rw [hll]; exact ha) hM (by rw [hll, ← hbM M hM]; exact hb)
    rw [hll] at ho hpo
    refine ⟨?_, hpo⟩
    unfold oris
    refine filter_one (cands_nodup p) (mem_cands (pih_kind ..) hpo) fun q _ => ⟨fun hq => (hOB q ((orig_iff hg ha).mp hq)).2, fun e => ?_⟩
    subst e
    exact (orig_iff hg ha).mpr ho
def goodRows (rs : List Row) : Prop := rs.length ≤ 6 ∧ ∀ r ∈ rs, r.ok
def clear (w : Ws) (rs : List Row) (gap : Nat) : Prop := barsL w rs gap = []
theorem bars_clear {w : Ws} {rs : List Row} {gap : Nat} (h : barsL w rs gap = []) {i j : Nat} {p : Pt} (hp : ptAt rs i j = some p) : bars w rs gap (i, j) = false := by
  unfold barsL at h
  rw [List.filter_eq_nil_iff] at h
  have := h (i, j) (spots_mem.mpr ⟨p, hp⟩)
  simpa using this
theorem mapH_ok {w : Ws} {rs : List Row} {gap : Nat} (hG : goodRows rs) (hg : gap ≤ rs.length) (h : barsL w rs gap = []) : ∀ r ∈ mapH rs.length gap 0 rs, r.ok := by
  intro r hr
  obtain ⟨i, hi⟩ := List.getElem?_of_mem hr
  rw [mapH_get] at hi
  cases e : rs[i]? with
  | none => rw [e] at hi; cases hi
  | some r0 =>
    rw [e] at hi
    simp only [Option.map_some, Option.some.injEq] at hi
    subst hi
    have ok0 := hG.2 r0 (List.mem_of_getElem? e)
    refine ⟨ok0.1, by simp [halfRow]; exact ok0.2.1, fun p hp => ?_⟩
    simp only [halfRow] at hp
    obtain ⟨p0, hp0, rfl⟩ := List.mem_map.mp hp
    obtain ⟨j, hj⟩ := List.getElem?_of_mem hp0
    have hpt : ptAt rs i j = some p0 := by unfold ptAt; rw [e]; exact hj
    rw [Nat.zero_add]
    exact ((oris_eq w rs hG.1 gap i j hg p0 hpt (ok0.2.2 p0 hp0)).2 (bars_clear h hpt)).2
def lhE (w : Ws) (rs : List Row) (gap : Nat) (found x4 x5 x6 x7 x8 : Slot) : Sm.Env := [.val w.d, .val (rowsD rs), .val (.int (gap : Int)), found, x4, x5, x6, x7, x8]
theorem ownM_l (ds : List D) (S : Sto) : ownM (.lst ds) S = .ok ds S := rfl
theorem lh_loop (w : Ws) (rs : List Row) (hG : goodRows rs) (gap : Nat) (hg : gap ≤ rs.length) (S : Sto) : ∀ (sub : List Row) (s : Nat) (acc : List Row) (x4 x5 x6 x7 x8 : Slot), (∀ i : Nat, rs[s + i]? = sub[i]?) → acc.length + sub.length ≤ 100 →
    ((∀ i j p, s ≤ i → ptAt rs i j = some p → bars w rs gap (i, j) = false) → ∃ y4 y5 y6 y7 y8, Sm.forM (.tup [4, 5]) lp__law_halves_0 (enumL s (sub.map Row.d)) (lhE w rs gap (.own (acc.map Row.d)) x4 x5 x6 x7 x8) S = .ok (.nx (lhE w rs gap (.own ((acc ++ mapH rs.length gap s sub).map Row.d)) y4 y5 y6 y7 y8)) S) ∧
    ((∃ i j p, s ≤ i ∧ ptAt rs i j = some p ∧ bars w rs gap (i, j) = true) → Sm.forM (.tup [4, 5]) lp__law_halves_0 (enumL s (sub.map Row.d)) (lhE w rs gap (.own (acc.map Row.d)) x4 x5 x6 x7 x8) S = .ok (.ret .non) S)
  | [], s, acc, x4, x5, x6, x7, x8, hv, _ => by
    refine ⟨fun _ => ⟨x4, x5, x6, x7, x8, by simp [mapH, enumL]⟩, ?_⟩
    rintro ⟨i, j, p, hi, hp, _⟩
    exfalso
    have := hv (i - s)
    rw [show s + (i - s) = i by omega] at this
    unfold ptAt at hp
    rw [this] at hp
    simp at hp
  | r :: sub, s, acc, x4, x5, x6, x7, x8, hv, hc => by
    simp only [List.length_cons] at hc
    have hr : rs[s]? = some r := by simpa using hv 0
    have ok0 := hG.2 r (List.mem_of_getElem? hr)
    have hpt : ∀ (j : Nat) (p : Pt), r.pts[j]? = some p → ptAt rs s j = some p := fun j p h => by unfold ptAt; rw [hr]; exact h
    have ho := fun (j : Nat) (p : Pt) (h : r.pts[j]? = some p) => oris_eq w rs hG.1 gap s j hg p (hpt j p h) (ok0.2.2 p (List.mem_of_getElem? h))
    have horig := fun (j : Nat) (p : Pt) (h : r.pts[j]? = some p) => law_origins w rs hG.1 gap s j hg p (hpt j p h)
    have hcc : acc.length < 100000 := by omega
    have hlc2 := lc_map (S := S) (bnd := fun d => bindD (.one 7) d (wipeE (lhE w rs gap (.own (acc.map Row.d)) (.val (.int (s : Int))) (.val r.d) x6 x7 x8) [7])) (e := ce__law_halves_2) (f := fun i : Nat => D.int (i : Int)) (g := fun j : Nat => D.lst (((r.pts[j]?.map (oris w rs gap s)).getD []).map Pt.d)) (List.range' 0 r.pts.length) fun j hj => by
      have hj' : j < r.pts.length := by simpa using (List.mem_range'_1.mp hj).2
      have hjp : r.pts[j]? = some r.pts[j] := List.getElem?_eq_getElem hj'
      have := horig j _ hjp
      refine ⟨_, rfl, ?_⟩
      unfold ce__law_halves_2 lhE
      simp [wipeE, hjp, this]
    rw [← rng_part] at hlc2
    have hmap : (List.range' 0 r.pts.length).map (fun j : Nat => D.lst (((r.pts[j]?.map (oris w rs gap s)).getD []).map Pt.d)) = r.pts.map fun p => D.lst ((oris w rs gap s p).map Pt.d) := by
      apply List.ext_getElem
      · simp
      · intro i h1 h2
        have : i < r.pts.length := by simpa using h1
        simp [this]
    rw [hmap] at hlc2
    have hrg : ∀ ρ : Sm.Env, ρ[5]? = some (.val r.d) → range1M (consM (c1 lenD (consM (o2 ixD (vb ρ 5) (rt (.int 1))) (rt []))) (rt [])) S = .ok (rng 0 r.pts.length) S := fun ρ h => e_range1 (n := r.pts.length) (by simp [h, Row.d]) (by have := ok0.2.1; omega)
    obtain ⟨os, hos⟩ : ∃ os, r.pts.map (fun p => D.lst ((oris w rs gap s p).map Pt.d)) = os := ⟨_, rfl⟩
    rw [hos] at hlc2
    have hlc1 := lc_map (S := S) (bnd := fun d => bindD (.one 8) d (wipeE (lhE w rs gap (.own (acc.map Row.d)) (.val (.int (s : Int))) (.val r.d) (.own os) x7 x8) [8])) (e := ce__law_halves_1) (f := fun p => D.lst ((oris w rs gap s p).map Pt.d)) (g := fun p => .bl (decide ((oris w rs gap s p).length = 1))) r.pts fun p _ => by
      refine ⟨_, rfl, ?_⟩
      unfold ce__law_halves_1 lhE
      have : decide (((oris w rs gap s p).length : Int) = 1) = decide ((oris w rs gap s p).length = 1) := by
        by_cases h : (oris w rs gap s p).length = 1
        · rw [decide_eq_true h, decide_eq_true (by omega)]
        · rw [decide_eq_false h, decide_eq_false (by omega)]
      simp [wipeE, this]
    rw [hos] at hlc1
    have hall := all_map (fun p => decide ((oris w rs gap s p).length = 1)) r.pts
    have eb : bindD (.tup [4, 5]) (.tup [.int (s : Int), r.d]) (lhE w rs gap (.own (acc.map Row.d)) x4 x5 x6 x7 x8) = some (lhE w rs gap (.own (acc.map Row.d)) (.val (.int (s : Int))) (.val r.d) x6 x7 x8) := rfl
    have hrow : (∀ j p, r.pts[j]? = some p → bars w rs gap (s, j) = false) ∨ ∃ j p, r.pts[j]? = some p ∧ bars w rs gap (s, j) = true := by
      by_cases h : ∃ j p, r.pts[j]? = some p ∧ bars w rs gap (s, j) = true
      · exact .inr h
      · refine .inl fun j p hj => ?_
        cases hb : bars w rs gap (s, j) with
        | false => rfl
        | true => exact absurd ⟨j, p, hj, hb⟩ h
    rcases hrow with hrow | ⟨j0, p0, hj0, hb0⟩
    · -- the row goes through
      have h1 : ∀ p ∈ r.pts, oris w rs gap s p = [pih rs.length gap s p] := fun p hp => by
        obtain ⟨j, hj⟩ := List.getElem?_of_mem hp
        exact ((ho j p hj).2 (hrow j p hj)).1
      have hallT : r.pts.all (fun p => decide ((oris w rs gap s p).length = 1)) = true := by
        rw [List.all_eq_true]
        intro p hp
        rw [h1 p hp]
        rfl
      rw [hallT] at hall
      have hlc0 := lc_map (S := S) (bnd := fun d => bindD (.one 8) d (wipeE (lhE w rs gap (.own (acc.map Row.d)) (.val (.int (s : Int))) (.val r.d) (.own os) x7 x8) [8])) (e := ce__law_halves_0) (f := fun p => D.lst ((oris w rs gap s p).map Pt.d)) (g := fun p => (pih rs.length gap s p).d) r.pts fun p hp => by
        refine ⟨_, rfl, ?_⟩
        unfold ce__law_halves_0 lhE
        simp [wipeE, h1 p hp]
      rw [hos] at hlc0
      have step : lp__law_halves_0 (lhE w rs gap (.own (acc.map Row.d)) (.val (.int (s : Int))) (.val r.d) x6 x7 x8) S = .ok (.nx (lhE w rs gap (.own ((acc ++ [halfRow rs.length gap s r]).map Row.d)) (.val (.int (s : Int))) (.val r.d) (.own os) x7 x8)) S := by
        unfold lp__law_halves_0
        simp only [lhE, Row.d] at hlc0 hlc1 hlc2 hrg
        simp only [lhE, Row.d]
        simp [hrg, hlc2, ownM_l, hlc1, hall, hlc0, hcc, Row.d, halfRow, Function.comp]
      obtain ⟨ihA, ihB⟩ := lh_loop w rs hG gap hg S sub (s + 1) (acc ++ [halfRow rs.length gap s r]) (.val (.int (s : Int))) (.val r.d) (.own os) x7 x8 (fun i => by rw [show s + 1 + i = s + (i + 1) by omega, hv (i + 1)]; simp) (by simp; omega)
      constructor
      · intro hf
        obtain ⟨y4, y5, y6, y7, y8, ih⟩ := ihA fun i j p hi hp => hf i j p (by omega) hp
        refine ⟨y4, y5, y6, y7, y8, ?_⟩
        rw [List.map_cons, enumL, e_forC, eb]
        dsimp only
        rw [step]
        dsimp only
        rw [ih]
        simp [mapH]
      · rintro ⟨i, j, p, hi, hp, hb⟩
        have hi' : s + 1 ≤ i := by
          rcases Nat.lt_or_ge s i with z | z
          · exact z
          · have : i = s := by omega
            subst this
            unfold ptAt at hp
            rw [hr] at hp
            have := hrow j p hp
            rw [hb] at this
            cases this
        have ih := ihB ⟨i, j, p, hi', hp, hb⟩
        rw [List.map_cons, enumL, e_forC, eb]
        dsimp only
        rw [step]
        dsimp only
        exact ih
    · have hallF : r.pts.all (fun p => decide ((oris w rs gap s p).length = 1)) = false := by
        rw [List.all_eq_false]
        refine ⟨p0, List.mem_of_getElem? hj0, ?_⟩
        rw [(ho j0 p0 hj0).1 hb0]
        simp
      rw [hallF] at hall
      constructor
      · intro hf
        have := hf s j0 p0 (Nat.le_refl _) (hpt j0 p0 hj0)
        rw [hb0] at this
        cases this
      · intro _
        have step : lp__law_halves_0 (lhE w rs gap (.own (acc.map Row.d)) (.val (.int (s : Int))) (.val r.d) x6 x7 x8) S = .ok (.ret .non) S := by
          unfold lp__law_halves_0
          simp only [lhE, Row.d] at hlc1 hlc2 hrg
          simp only [lhE, Row.d]
          simp [hrg, hlc2, ownM_l, hlc1, hall]
        rw [List.map_cons, enumL, e_forC, eb]
        dsimp only
        rw [step]
end Pu

/-! text: Q26 -/
set_option Elab.async false
set_option linter.all false
set_option maxRecDepth 100000
set_option maxHeartbeats 4000000
namespace Sm
open PySem PySem.Spec L2
@[simp] theorem e_slot20 (a b : D) (S : Sto) : slotM 2 0 (.ins 2 [a, b]) S = .ok a S := rfl
@[simp] theorem e_slot21 (a b : D) (S : Sto) : slotM 2 1 (.ins 2 [a, b]) S = .ok b S := rfl
@[simp] theorem e_slot30 (a : D) (S : Sto) : slotM 3 0 (.ins 3 [a]) S = .ok a S := rfl
@[simp] theorem e_ins2 (fs : List D) (S : Sto) : insM 2 (.ins 2 fs) S = .ok (.ins 2 fs) S := rfl
@[simp] theorem e_ins3 (fs : List D) (S : Sto) : insM 3 (.ins 3 fs) S = .ok (.ins 3 fs) S := rfl
end Sm
namespace Pu
open PySem PySem.Spec L2 Sm Wk
def halvesD (w : Ws) (rs : List Row) (gap : Nat) : D := if barsL w rs gap = [] then .tup [rowsD (HA rs gap), rowsD (HB rs gap)] else .non
theorem pts2 {rs : List Row} (hG : goodRows rs) : ∀ r ∈ rs, r.pts.length ≤ 2 := fun r hr => (hG.2 r hr).2.1
theorem law_halves (w : Ws) (rs : List Row) (hG : goodRows rs) (gap : Nat) (hg : gap ≤ rs.length) (S : Sto) : m__law_halves [w.d, rowsD rs, .int (gap : Int)] S = .ok (halvesD w rs gap) S := by
  have hlen := hG.1
  obtain ⟨hA, hB⟩ := lh_loop w rs hG gap hg S rs 0 [] .no .no .no .no .no (fun i => by simp) (by simp; omega)
  simp only [List.map_nil, List.nil_append] at hA hB
  unfold m__law_halves halvesD
  rw [n__law_halves]
  by_cases hc : barsL w rs gap = []
  · rw [if_pos hc]
    obtain ⟨y4, y5, y6, y7, y8, h⟩ := hA fun i j p _ hp => bars_clear hc hp
    rw [H_split rs gap hg] at h
    have ct := cut_to ((HA rs gap ++ HB rs gap).map Row.d) gap
    have cf := cut_from ((HA rs gap ++ HB rs gap).map Row.d) gap
    rw [← List.map_take, List.take_left' (HA_len rs gap hg)] at ct
    rw [← List.map_drop, List.drop_left' (HA_len rs gap hg)] at cf
    simp only [lhE, rowsD] at h
    simp only [rowsD]
    simp [h, ct, cf, -List.map_append]
  · rw [if_neg hc]
    have : ∃ i j p, 0 ≤ i ∧ ptAt rs i j = some p ∧ bars w rs gap (i, j) = true := by
      obtain ⟨x, hx⟩ := List.exists_mem_of_ne_nil _ hc
      unfold barsL at hx
      rw [List.mem_filter] at hx
      obtain ⟨p, hp⟩ := spots_mem.mp hx.1
      exact ⟨x.1, x.2, p, Nat.zero_le _, hp, hx.2⟩
    have h := hB this
    simp only [lhE, rowsD] at h
    simp only [rowsD]
    simp [h]
def showsH (w : Ws) (rs : List Row) (gap : Nat) (a b : List Row) : Bool := decide (a.length = gap ∧ a.length + b.length = rs.length) && (whole a && (whole b && decide (joinR w a b = rs ∧ lostJ w a b = [])))
def halvesI (a b : List Row) : D := .ins 2 [stepsD a, stepsD b]
theorem nat_eqI (a b : Nat) (S : Sto) : neD (.int (a : Int)) (.int (b : Int)) S = some (.bl (!decide (a = b))) := by
  have : decide ((a : Int) = (b : Int)) = decide (a = b) := by
    by_cases h : a = b
    · rw [decide_eq_true h, decide_eq_true (by omega)]
    · rw [decide_eq_false h, decide_eq_false (by omega)]
  rw [e_neII, this]
theorem halves_shows (w : Ws) (rs : List Row) (hl : rs.length ≤ 6) (gap : Nat) (hg : gap ≤ rs.length) (a b : List Row) (ha : a.length ≤ 6) (hb : b.length ≤ 6) (ha2 : ∀ r ∈ a, r.pts.length ≤ 2) (hb2 : ∀ r ∈ b, r.pts.length ≤ 2) (S : Sto) : m_Halves_shows [halvesI a b, wayD w, stepsD rs, .int (gap : Int)] S = .ok (.bl (showsH w rs gap a b)) S := by
  have hcg := check_gap w rs (by omega) gap hg
  have w1 := are_whole a (by omega) ha2
  have w2 := are_whole b (by omega) hb2
  have hln := fun S => e_lenI (n := rs.length) (by omega) S
  have n1 := nat_eqI a.length gap
  have hsum : ((a.length : Int) + (b.length : Int)) = ((a.length + b.length : Nat) : Int) := by omega
  have n2 := nat_eqI (a.length + b.length) rs.length
  unfold m_Halves_shows b_Halves_shows showsH
  simp only [halvesI, wayD, stepsD] at hcg ⊢
  have la : ∀ S, lenD [rowsD a] S = some (.int a.length) := fun S => by simp [rowsD]
  have lb : ∀ S, lenD [rowsD b] S = some (.int b.length) := fun S => by simp [rowsD]
  by_cases h1 : a.length = gap
  · by_cases h2 : a.length + b.length = rs.length
    · have he := edited w a b (by omega) ha2 hb2
      simp only [joinD] at he
      have hpe := pair_eq (joinR w a b) rs (lostJ w a b)
      rw [decide_eq_true h1] at n1
      rw [decide_eq_true h2] at n2
      rw [decide_eq_true (show a.length = gap ∧ a.length + b.length = rs.length from ⟨h1, h2⟩)]
      cases hA : whole a with
      | false =>
        rw [hA] at w1
        simp [hcg, steps_rows, way_words, steps_len, hln, la, lb, n1, n2, hsum, w1, -e_neII, -Int.natCast_add]
      | true =>
        rw [hA] at w1
        cases hB : whole b with
        | false =>
          rw [hB] at w2
          simp [hcg, steps_rows, way_words, steps_len, hln, la, lb, n1, n2, hsum, w1, w2, -e_neII, -Int.natCast_add]
        | true =>
          rw [hB] at w2
          simp [hcg, steps_rows, way_words, steps_len, hln, la, lb, n1, n2, hsum, w1, w2, he, hpe, -e_neII, -Int.natCast_add]
    · rw [decide_eq_true h1] at n1
      rw [decide_eq_false h2] at n2
      rw [decide_eq_false (show ¬ (a.length = gap ∧ a.length + b.length = rs.length) from fun z => h2 z.2)]
      simp [hcg, steps_rows, way_words, steps_len, hln, la, lb, n1, n2, hsum, -e_neII, -Int.natCast_add]
  · rw [decide_eq_false h1] at n1
    rw [decide_eq_false (show ¬ (a.length = gap ∧ a.length + b.length = rs.length) from fun z => h1 z.1)]
    simp [hcg, steps_rows, way_words, steps_len, hln, la, lb, n1, -e_neII, -Int.natCast_add]
theorem law_are_halves (w : Ws) (rs : List Row) (hl : rs.length ≤ 6) (gap : Nat) (a b : List Row) (ha : a.length ≤ 6) (hb : b.length ≤ 6) (ha2 : ∀ r ∈ a, r.pts.length ≤ 2) (hb2 : ∀ r ∈ b, r.pts.length ≤ 2) (S : Sto) : m__law_are_halves [w.d, rowsD rs, .int (gap : Int), rowsD a, rowsD b] S = .ok (.bl (showsH w rs gap a b)) S := by
  have w1 := law_is_whole a (by omega) ha2
  have w2 := law_is_whole b (by omega) hb2
  have n1 := nat_eqI a.length gap
  have hsum : ((a.length : Int) + (b.length : Int)) = ((a.length + b.length : Nat) : Int) := by omega
  have n2 := nat_eqI (a.length + b.length) rs.length
  have la : ∀ S, lenD [rowsD a] S = some (.int a.length) := fun S => by simp [rowsD]
  have lb : ∀ S, lenD [rowsD b] S = some (.int b.length) := fun S => by simp [rowsD]
  have lr : ∀ S, lenD [rowsD rs] S = some (.int rs.length) := fun S => by simp [rowsD]
  unfold m__law_are_halves b__law_are_halves showsH
  by_cases h1 : a.length = gap
  · by_cases h2 : a.length + b.length = rs.length
    · have he := law_edited w a b (by omega) ha2 hb2
      simp only [joinD] at he
      have hpe := pair_eq (joinR w a b) rs (lostJ w a b)
      rw [decide_eq_true h1] at n1
      rw [decide_eq_true h2] at n2
      rw [decide_eq_true (show a.length = gap ∧ a.length + b.length = rs.length from ⟨h1, h2⟩)]
      cases hA : whole a with
      | false =>
        rw [hA] at w1
        simp [la, lb, lr, n1, n2, hsum, w1, -e_neII, -Int.natCast_add]
      | true =>
        rw [hA] at w1
        cases hB : whole b with
        | false =>
          rw [hB] at w2
          simp [la, lb, lr, n1, n2, hsum, w1, w2, -e_neII, -Int.natCast_add]
        | true =>
          rw [hB] at w2
          simp [la, lb, lr, n1, n2, hsum, w1, w2, he, hpe, -e_neII, -Int.natCast_add]
    · rw [decide_eq_true h1] at n1
      rw [decide_eq_false h2] at n2
      rw [decide_eq_false (show ¬ (a.length = gap ∧ a.length + b.length = rs.length) from fun z => h2 z.2)]
      simp [la, lb, lr, n1, n2, hsum, -e_neII, -Int.natCast_add]
  · rw [decide_eq_false h1] at n1
    rw [decide_eq_false (show ¬ (a.length = gap ∧ a.length + b.length = rs.length) from fun z => h1 z.1)]
    simp [la, lb, lr, n1, -e_neII, -Int.natCast_add]
theorem barred_shows (w : Ws) (rs : List Row) (hG : goodRows rs) (gap : Nat) (hg : gap ≤ rs.length) (x : Nat × Nat) (S : Sto) : m_Barred_shows [.ins 3 [spD x], wayD w, stepsD rs, .int (gap : Int)] S = .ok (.bl (bars w rs gap x)) S := by
  have hl := hG.1
  have hcg := check_gap w rs (by omega) gap hg
  have hs := all_spots rs (by omega) (pts2 hG)
  have hin := fun S => (in_spots x (spots rs) S).1
  unfold m_Barred_shows b_Barred_shows
  simp only [wayD, stepsD] at hcg ⊢
  by_cases hx : x ∈ spots rs
  · have hb := does_bar w rs gap x hx
    rw [decide_eq_true hx] at hin
    simp [hcg, steps_rows, way_words, hs, hin, hb]
  · have hb : bars w rs gap x = false := by
      unfold bars
      cases hp : ptAt rs x.1 x.2 with
      | none => rfl
      | some p => exact absurd (spots_mem.mpr ⟨p, hp⟩) hx
    rw [decide_eq_false hx] at hin
    rw [hb]
    simp [hcg, steps_rows, way_words, hs, hin]
theorem barred_init (d : D) (S : Sto) : m_Barred_init [d] S = .ok (.ins 3 [d]) S := by
  unfold m_Barred_init initM b_Barred_init
  simp [iniM, iniE, selfM, allS]
theorem halves_init (a b : D) (S : Sto) : m_Halves_init [a, b] S = .ok (.ins 2 [a, b]) S := by
  unfold m_Halves_init initM b_Halves_init
  simp [iniM, iniE, selfM, allS]
def answerD (w : Ws) (rs : List Row) (gap : Nat) : D := match barsL w rs gap with
  | x :: _ => .ins 3 [spD x]
  | [] => halvesI (HA rs gap) (HB rs gap)
theorem take_apart (w : Ws) (rs : List Row) (hG : goodRows rs) (gap : Nat) (hg : gap ≤ rs.length) (S : Sto) : m_take_apart [wayD w, stepsD rs, .int (gap : Int)] S = .ok (answerD w rs gap) S := by
  have hl := hG.1
  have hcg := check_gap w rs (by omega) gap hg
  have hb := bars_of w rs (by omega) (pts2 hG) gap
  have hn := fun S => (eq_nilS (barsL w rs gap) S).2
  unfold m_take_apart b_take_apart answerD
  simp only [wayD, stepsD] at hcg ⊢
  cases hbl : barsL w rs gap with
  | nil =>
    have hh := halves_of rs hl gap hg (pts2 hG) (mapH_ok hG hg hbl)
    rw [hbl] at hn hb
    simp only [List.map_nil, List.isEmpty_nil] at hn hb
    simp only [stepsD] at hh
    simp [hcg, steps_rows, way_words, hb, hn, hh, halves_init, halvesI, stepsD]
  | cons x xs =>
    rw [hbl] at hn hb
    simp only [List.map_cons, List.isEmpty_cons] at hn hb
    simp [hcg, steps_rows, way_words, hb, hn, barred_init]
end Pu

/-! text: Q27 -/
set_option Elab.async false
set_option linter.all false
set_option maxRecDepth 100000
set_option maxHeartbeats 4000000
namespace Sm
theorem wh_stop {t : Env → M Bool} {b : Env → M Out} {n : Nat} {ρ : Env} {S S' : Sto} (h : t ρ S = .ok false S') : whM t b (n + 1) ρ S = .ok (.nx ρ) S' := by
  unfold whM bd
  rw [h]
  rfl
end Sm
namespace Pu
open PySem PySem.Spec L2 Sm Wk
def healRow (rs0 : List Row) (i : Nat) (r : Row) : Row := ⟨r.lab, r.pts.filter fun p => (means rs0 i p).isSome⟩
def healL (rs0 : List Row) : Nat → List Row → List Row
  | _, [] => []
  | s, r :: rs => healRow rs0 s r :: healL rs0 (s + 1) rs
theorem healL_len (rs0 : List Row) : ∀ (s : Nat) (rs : List Row), (healL rs0 s rs).length = rs.length
  | _, [] => rfl
  | s, r :: rs => by simp [healL, healL_len rs0 (s + 1) rs]
theorem healL_lab (rs0 : List Row) : ∀ (s : Nat) (rs : List Row), (healL rs0 s rs).map Row.lab = rs.map Row.lab
  | _, [] => rfl
  | s, r :: rs => by simp [healL, healRow, healL_lab rs0 (s + 1) rs]
theorem healL_get (rs0 : List Row) : ∀ (s : Nat) (rs : List Row) (i : Nat), (healL rs0 s rs)[i]? = rs[i]?.map (healRow rs0 (s + i))
  | _, [], i => by simp [healL]
  | s, r :: rs, 0 => by simp [healL]
  | s, r :: rs, i + 1 => by
    simp only [healL, List.getElem?_cons_succ, healL_get rs0 (s + 1) rs i]
    rw [show s + 1 + i = s + (i + 1) by omega]
theorem heal_loop (rs0 : List Row) (hl : rs0.length ≤ 1000) (S : Sto) : ∀ (rs : List Row) (s : Nat) (acc : List Row) (x2 x3 x4 : Slot), (∀ i : Nat, rs0[s + i]? = rs[i]?) → acc.length + rs.length ≤ 1000 →
    ∃ y2 y3 y4, Sm.forM (.one 2) lp__law_healed_0 (rng (s : Int) rs.length) [.val (rowsD rs0), .own (acc.map Row.d), x2, x3, x4] S = .ok (.nx [.val (rowsD rs0), .own ((acc ++ healL rs0 s rs).map Row.d), y2, y3, y4]) S
  | [], s, acc, x2, x3, x4, _, _ => ⟨x2, x3, x4, by simp [healL, rng]⟩
  | r :: rs, s, acc, x2, x3, x4, hv, hc => by
    simp only [List.length_cons] at hc
    have hr : rs0[s]? = some r := by simpa using hv 0
    have e1 : L2.atI (rs0.map Row.d) (s : Int) = some r.d := e_atS (by simp [hr])
    have hcc : acc.length < 100000 := by omega
    obtain ⟨y2, y3, y4, ih⟩ := heal_loop rs0 hl S rs (s + 1) (acc ++ [healRow rs0 s r]) (.val (.int (s : Int))) (.own ((r.pts.filter fun p => (means rs0 s p).isSome).map Pt.d)) x4 (fun i => by rw [show s + 1 + i = s + (i + 1) by omega, hv (i + 1)]; simp) (by simp; omega)
    have hlc := lc_mapF (S := S) (bnd := fun d => bindD (.one 4) d (wipeE [.val (rowsD rs0), .own (acc.map Row.d), .val (.int (s : Int)), x3, x4] [4])) (t := ct__law_healed_0) (e := ce__law_healed_0) (f := Pt.d) (g := Pt.d) (p := fun p => (means rs0 s p).isSome) r.pts fun p _ => by
      have hm := law_meant (isRowsT rs0) hl s p
      have i1 := isN_natO (means rs0 s p)
      refine ⟨_, rfl, ?_, fun _ => ?_⟩
      · unfold ct__law_healed_0
        simp [wipeE, hm, i1]
      · unfold ce__law_healed_0
        simp [wipeE]
    refine ⟨y2, y3, y4, ?_⟩
    rw [List.length_cons, rng_cons, e_forC]
    have eb : bindD (.one 2) (.int (s : Int)) [.val (rowsD rs0), .own (acc.map Row.d), x2, x3, x4] = some [.val (rowsD rs0), .own (acc.map Row.d), .val (.int (s : Int)), x3, x4] := rfl
    rw [eb]
    dsimp only
    have key : lp__law_healed_0 [.val (rowsD rs0), .own (acc.map Row.d), .val (.int (s : Int)), x3, x4] S = .ok (.nx [.val (rowsD rs0), .own ((acc ++ [healRow rs0 s r]).map Row.d), .val (.int (s : Int)), .own ((r.pts.filter fun p => (means rs0 s p).isSome).map Pt.d), x4]) S := by
      unfold lp__law_healed_0
      simp only [rowsD] at hlc ⊢
      simp [e1, Row.d, hlc, hcc, healRow]
    rw [key]
    dsimp only
    rw [show (s : Int) + 1 = ((s + 1 : Nat) : Int) by omega, ih]
    simp [healL]
def heal (rs : List Row) : List Row := healL rs 0 rs
theorem law_healed (rs : List Row) (hl : rs.length ≤ 1000) (S : Sto) : m__law_healed [rowsD rs] S = .ok (rowsD (heal rs)) S := by
  obtain ⟨y2, y3, y4, h⟩ := heal_loop rs hl S rs 0 [] .no .no .no (fun i => by simp) (by simp; omega)
  have hr : ∀ ρ : Sm.Env, ρ[0]? = some (.val (rowsD rs)) → range1M (consM (c1 lenD (consM (vb ρ 0) (rt []))) (rt [])) S = .ok (rng 0 rs.length) S := fun ρ h => e_range1 (n := rs.length) (by simp [h, rowsD]) (by omega)
  simp only [List.map_nil, List.nil_append, Int.natCast_zero] at h
  unfold m__law_healed
  rw [n__law_healed]
  simp only [rowsD] at h hr ⊢
  simp [hr, h, heal]
theorem heal_good {rs : List Row} (h : goodRows rs) : goodRows (heal rs) := by
  refine ⟨by unfold heal; rw [healL_len]; exact h.1, fun r hr => ?_⟩
  obtain ⟨i, hi⟩ := List.getElem?_of_mem hr
  unfold heal at hi
  rw [healL_get] at hi
  cases e : rs[i]? with
  | none => rw [e] at hi; cases hi
  | some r0 =>
    rw [e] at hi
    simp only [Option.map_some, Option.some.injEq] at hi
    subst hi
    have ok0 := h.2 r0 (List.mem_of_getElem? e)
    exact ⟨ok0.1, Nat.le_trans (List.length_filter_le ..) ok0.2.1, fun p hp => ok0.2.2 p (List.mem_filter.mp hp).1⟩
theorem heal_whole (rs : List Row) : whole (heal rs) = true := by
  rw [whole_iff]
  intro i r j p hi hj
  have hlab : (heal rs).map Row.lab = rs.map Row.lab := healL_lab rs 0 rs
  rw [means_eq, hlab, ← means_eq]
  unfold heal at hi
  rw [healL_get] at hi
  cases e : rs[i]? with
  | none => rw [e] at hi; cases hi
  | some r0 =>
    rw [e] at hi
    simp only [Option.map_some, Option.some.injEq] at hi
    subst hi
    have hp := List.mem_of_getElem? hj
    simp only [healRow, List.mem_filter, Nat.zero_add] at hp
    exact Option.isSome_iff_exists.mp hp.2
theorem keep_ok {w : Ws} {p : Pt} {here : Nat} {o : Option Nat} {many : Nat} (hp : p.ok) (hh : here < many) (hm : many ≤ 10) (ho : ∀ t, o = some t → t < many) : (keepO w false p (here : Int) o (many : Int)).ok := by
  cases p with
  | lab l => cases o <;> exact hp
  | «at» k n =>
    cases o with
    | none => exact hp
    | some t =>
      obtain ⟨z, e, hc⟩ := keepO_at w k n (here : Int) t (many : Int)
      rw [e]
      have ht := ho t rfl
      rcases hc with ⟨_, rfl⟩ | ⟨_, ⟨_, rfl⟩ | ⟨h, rfl⟩⟩
      · exact hp
      · exact hp
      · refine ⟨by omega, ?_⟩
        exact point_le (by omega) (by omega) (by omega) k
theorem join_good {w : Ws} {a b : List Row} (ha : ∀ r ∈ a, r.ok) (hb : ∀ r ∈ b, r.ok) (hl : a.length + b.length ≤ 6) : goodRows (joinR w a b) := by
  refine ⟨by rw [joinR_len]; exact hl, fun r hr => ?_⟩
  obtain ⟨i, hi⟩ := List.getElem?_of_mem hr
  by_cases hia : i < a.length
  · have e : a[i]? = some a[i] := List.getElem?_eq_getElem hia
    rw [join_get_a e] at hi
    cases hi
    have ok0 := ha _ (List.getElem_mem hia)
    refine ⟨ok0.1, by simp; exact ok0.2.1, fun p hp => ?_⟩
    obtain ⟨p0, hp0, rfl⟩ := List.mem_map.mp hp
    refine keep_ok (ok0.2.2 p0 hp0) (by omega) (by omega) fun t ht => ?_
    obtain ⟨m, _, rfl, hm⟩ := nowP_lt ht
    omega
  · have hib : i < a.length + b.length := by
      have := (List.getElem?_eq_some_iff.mp hi).1
      rwa [joinR_len] at this
    have e : b[i - a.length]? = some b[i - a.length] := List.getElem?_eq_getElem (by omega)
    have hj := join_get_b (w := w) (a := a) e
    rw [show a.length + (i - a.length) = i by omega] at hj
    rw [hj] at hi
    cases hi
    have ok0 := hb _ (List.getElem_mem (show i - a.length < b.length by omega))
    refine ⟨ok0.1, by simp; exact ok0.2.1, fun p hp => ?_⟩
    obtain ⟨p0, hp0, rfl⟩ := List.mem_map.mp hp
    refine keep_ok (ok0.2.2 p0 hp0) (by omega) (by omega) fun t ht => ?_
    obtain ⟨m, _, rfl, hm⟩ := nowP_lt ht
    omega
theorem join_whole {w : Ws} {a b : List Row} (ha : whole a = true) (hb : whole b = true) (hl : lostJ w a b = []) : whole (joinR w a b) = true := by
  rw [whole_iff] at *
  obtain ⟨cA, cB⟩ := lost_iff.mp hl
  intro i r j p hi hj
  by_cases hia : i < a.length
  · have e : a[i]? = some a[i] := List.getElem?_eq_getElem hia
    rw [join_get_a e] at hi
    cases hi
    rw [List.getElem?_map] at hj
    cases hp : (a[i]).pts[j]? with
    | none => rw [hp] at hj; cases hj
    | some p0 =>
      rw [hp] at hj
      cases hj
      obtain ⟨m, hm⟩ := ha i _ j p0 e hp
      have := cA i _ j p0 e hp m hm
      rw [Nat.zero_add] at this
      exact ⟨_, this⟩
  · have hib : i < a.length + b.length := by
      have := (List.getElem?_eq_some_iff.mp hi).1
      rwa [joinR_len] at this
    have e : b[i - a.length]? = some b[i - a.length] := List.getElem?_eq_getElem (by omega)
    have hj' := join_get_b (w := w) (a := a) e
    rw [show a.length + (i - a.length) = i by omega] at hj'
    rw [hj'] at hi
    cases hi
    rw [List.getElem?_map] at hj
    cases hp : (b[i - a.length]).pts[j]? with
    | none => rw [hp] at hj; cases hj
    | some p0 =>
      rw [hp] at hj
      cases hj
      obtain ⟨m, hm⟩ := hb _ _ j p0 e hp
      have := cB _ _ j p0 e hp m hm
      rw [show a.length + (i - a.length) = i by omega] at this
      exact ⟨_, this⟩
theorem law_list (n : Nat) (w : Ws) (S : Sto) (hd : Draw n S) : ∃ (rs : List Row) (S' : Sto), m__law_list [.ref n, w.d] S = .ok (rowsD rs) S' ∧ goodRows rs ∧ whole rs = true ∧ Draw n S' ∧ S'.length = S.length := by
  obtain ⟨a0, S1, h1, a1, a4, aok, d1, l1⟩ := rows n 4 (by decide) (by decide) S hd
  obtain ⟨b0, S2, h2, b1, b4, bok, d2, l2⟩ := rows n 2 (by decide) (by decide) S1 d1
  have h1' : m__law_rows [.ref n, .int 4] S = .ok (rowsD a0) S1 := h1
  have h2' : m__law_rows [.ref n, .int 2] S1 = .ok (rowsD b0) S2 := h2
  have gA := heal_good (rs := a0) ⟨by omega, aok⟩
  have gB := heal_good (rs := b0) ⟨by omega, bok⟩
  have lA : (heal a0).length ≤ 4 := by unfold heal; rw [healL_len]; omega
  have lB : (heal b0).length ≤ 2 := by unfold heal; rw [healL_len]; omega
  have hhA := law_healed a0 (by omega)
  have hhB := law_healed b0 (by omega)
  have wA := law_is_whole (heal a0) (by omega) (pts2 gA)
  have wB := law_is_whole (heal b0) (by omega) (pts2 gB)
  rw [heal_whole] at wA wB
  have he := law_edited w (heal a0) (heal b0) (by omega) (pts2 gA) (pts2 gB)
  simp only [joinD] at he
  have hn := fun S => (eq_nilS (lostJ w (heal a0) (heal b0)) S).1
  obtain ⟨r, S3, h3, r1, r2, d3, l3⟩ := next n 4 (by decide) S2 d2
  have whA : ∀ (ρ : Sm.Env) (b : Sm.Env → M Out) (S : Sto), ρ[2]? = some (.val (rowsD (heal a0))) → whM (fun ρ => (notT (boolT (bd (consM (vl ρ 2) (rt [])) fun ds => callM 1 m__law_is_whole ds)))) b 40 ρ S = .ok (.nx ρ) S := fun ρ b S h => wh_stop (n := 39) (by simp [h, wA])
  have whB : ∀ (ρ : Sm.Env) (b : Sm.Env → M Out) (S : Sto), ρ[3]? = some (.val (rowsD (heal b0))) → whM (fun ρ => (notT (boolT (bd (consM (vl ρ 3) (rt [])) fun ds => callM 1 m__law_is_whole ds)))) b 40 ρ S = .ok (.nx ρ) S := fun ρ b S h => wh_stop (n := 39) (by simp [h, wB])
  unfold m__law_list b__law_list
  by_cases hL : lostJ w (heal a0) (heal b0) = []
  · rw [hL] at hn
    simp only [List.isEmpty_nil] at hn
    by_cases hr : 0 < r
    · refine ⟨joinR w (heal a0) (heal b0), S3, ?_, join_good gA.2 gB.2 (by omega), join_whole (heal_whole _) (heal_whole _) hL, d3, by omega⟩
      rw [hL] at he
      simp [h1', hhA, whA, h2', hhB, whB, he, hn, h3, hr]
      simp [List.map_nil] at hn
      simp [hn, h3, hr]
    · refine ⟨heal a0, S3, ?_, gA, heal_whole _, d3, by omega⟩
      rw [hL] at he
      simp [h1', hhA, whA, h2', hhB, whB, he, hn, h3, hr]
      simp [List.map_nil] at hn
      simp [hn, h3, hr]
  · refine ⟨heal a0, S2, ?_, gA, heal_whole _, d2, by omega⟩
    have hn' : ∀ S, eqD (.lst ((lostJ w (heal a0) (heal b0)).map spD)) (.lst []) S = some (.bl false) := fun S => by
      rw [hn]
      cases e : lostJ w (heal a0) (heal b0) with
      | nil => exact absurd e hL
      | cons x xs => rfl
    simp [h1', hhA, whA, h2', hhB, whB, he, hn']
end Pu

/-! text: Q28 -/
set_option Elab.async false
set_option linter.all false
set_option maxRecDepth 100000
set_option maxHeartbeats 4000000
namespace Pu
open PySem PySem.Spec L2 Sm Wk
theorem bars_means {w : Ws} {rs : List Row} {gap i j : Nat} {p : Pt} (hp : ptAt rs i j = some p) (hb : bars w rs gap (i, j) = false) : ∃ M, meansL (rs.map Row.lab) i p = some M ∧ barsP w rs.length gap i M p = false := by
  unfold bars at hb
  dsimp only at hb
  rw [hp] at hb
  dsimp only at hb
  rw [means_eq] at hb
  cases hm : meansL (rs.map Row.lab) i p with
  | none => rw [hm] at hb; cases hb
  | some M => rw [hm] at hb; exact ⟨M, rfl, hb⟩
theorem clear_org {w : Ws} {rs : List Row} {gap : Nat} (hG : goodRows rs) (hg : gap ≤ rs.length) (h : barsL w rs gap = []) {i j : Nat} {r : Row} {p : Pt} (hi : rs[i]? = some r) (hj : r.pts[j]? = some p) : Org w (rs.map Row.lab) gap i p (pih rs.length gap i p) := by
  have hp : ptAt rs i j = some p := by unfold ptAt; rw [hi]; exact hj
  obtain ⟨M, h1, h2⟩ := bars_means hp (bars_clear h hp)
  have hll : (rs.map Row.lab).length = rs.length := List.length_map ..
  have hok := (hG.2 r (List.mem_of_getElem? hi)).2.2 p (List.mem_of_getElem? hj)
  have hil := (List.getElem?_eq_some_iff.mp hi).1
  have hl6 := hG.1
  have := (org_A (w := w) hok (by rw [hll]; omega) (by rw [hll]; exact hg) (by rw [hll]; exact hil) h1 (by rw [hll]; exact h2)).1
  rw [hll] at this
  exact this
theorem HA_get {rs : List Row} {gap i : Nat} (hi : i < gap) : (HA rs gap)[i]? = rs[i]?.map (halfRow rs.length gap i) := by
  unfold HA
  rw [mapH_get, List.getElem?_take, if_pos hi, Nat.zero_add]
theorem HB_get {rs : List Row} {gap i : Nat} : (HB rs gap)[i]? = rs[gap + i]?.map (halfRow rs.length gap (gap + i)) := by
  unfold HB
  rw [mapH_get, List.getElem?_drop]
theorem mapH_lab (len gap : Nat) : ∀ (s : Nat) (rs : List Row), (mapH len gap s rs).map Row.lab = rs.map Row.lab
  | _, [] => rfl
  | s, r :: rs => by simp [mapH, halfRow, mapH_lab len gap (s + 1) rs]
theorem halves_join {w : Ws} {rs : List Row} {gap : Nat} (hG : goodRows rs) (hg : gap ≤ rs.length) (h : barsL w rs gap = []) : whole (HA rs gap) = true ∧ whole (HB rs gap) = true ∧ joinR w (HA rs gap) (HB rs gap) = rs ∧ lostJ w (HA rs gap) (HB rs gap) = [] := by
  have hal := HA_len rs gap hg
  have hbl := HB_len rs gap
  have htot : (HA rs gap).length + (HB rs gap).length = rs.length := by omega
  have labA : (HA rs gap).map Row.lab = (rs.map Row.lab).take gap := by unfold HA; rw [mapH_lab, take_lab]
  have labB : (HB rs gap).map Row.lab = (rs.map Row.lab).drop gap := by unfold HB; rw [mapH_lab, drop_lab]
  have labJ : (joinR w (HA rs gap) (HB rs gap)).map Row.lab = rs.map Row.lab := by rw [join_lab, labA, labB, List.take_append_drop]
  have hll : (rs.map Row.lab).length = rs.length := List.length_map ..
  -- a pointer of the first half
  have ptA : ∀ (i : Nat) (r : Row) (j : Nat) (q : Pt), (HA rs gap)[i]? = some r → r.pts[j]? = some q → ∃ r0 p m, i < gap ∧ rs[i]? = some r0 ∧ r0.pts[j]? = some p ∧ q = pih rs.length gap i p ∧ means (HA rs gap) i q = some m ∧ lateP w (HA rs gap) 0 ((HA rs gap).length + (HB rs gap).length) i q = p ∧ means (joinR w (HA rs gap) (HB rs gap)) i p = some m := by
    intro i r j q hi hj
    have hig : i < gap := by have := (List.getElem?_eq_some_iff.mp hi).1; omega
    rw [HA_get hig] at hi
    cases e : rs[i]? with
    | none => rw [e] at hi; cases hi
    | some r0 =>
      rw [e] at hi
      simp only [Option.map_some, Option.some.injEq] at hi
      subst hi
      simp only [halfRow, List.getElem?_map] at hj
      cases ep : r0.pts[j]? with
      | none => rw [ep] at hj; cases hj
      | some p =>
        rw [ep] at hj
        simp only [Option.map_some, Option.some.injEq] at hj
        subst hj
        obtain ⟨m, m1, m2, m3⟩ := clear_org hG hg h e ep
        unfold locL offG at m1
        unfold offG at m2 m3
        simp only [if_pos hig, Nat.sub_zero, Nat.zero_add] at m1 m2 m3
        have mA : means (HA rs gap) i (pih rs.length gap i p) = some m := by rw [means_eq, labA]; exact m1
        refine ⟨r0, p, m, hig, rfl, ep, rfl, mA, ?_, by rw [means_eq, labJ]; exact m3⟩
        unfold lateP nowP
        rw [mA, htot, Nat.zero_add]
        rw [hll] at m2
        simpa using m2
  have ptB : ∀ (i : Nat) (r : Row) (j : Nat) (q : Pt), (HB rs gap)[i]? = some r → r.pts[j]? = some q → ∃ r0 p m, rs[gap + i]? = some r0 ∧ r0.pts[j]? = some p ∧ q = pih rs.length gap (gap + i) p ∧ means (HB rs gap) i q = some m ∧ lateP w (HB rs gap) (HA rs gap).length ((HA rs gap).length + (HB rs gap).length) i q = p ∧ means (joinR w (HA rs gap) (HB rs gap)) (gap + i) p = some (gap + m) := by
    intro i r j q hi hj
    rw [HB_get] at hi
    cases e : rs[gap + i]? with
    | none => rw [e] at hi; cases hi
    | some r0 =>
      rw [e] at hi
      simp only [Option.map_some, Option.some.injEq] at hi
      subst hi
      simp only [halfRow, List.getElem?_map] at hj
      cases ep : r0.pts[j]? with
      | none => rw [ep] at hj; cases hj
      | some p =>
        rw [ep] at hj
        simp only [Option.map_some, Option.some.injEq] at hj
        subst hj
        obtain ⟨m, m1, m2, m3⟩ := clear_org hG hg h e ep
        have hng : ¬ gap + i < gap := by omega
        unfold locL offG at m1
        unfold offG at m2 m3
        simp only [if_neg hng, show gap + i - gap = i by omega] at m1 m2 m3
        have mB : means (HB rs gap) i (pih rs.length gap (gap + i) p) = some m := by rw [means_eq, labB]; exact m1
        refine ⟨r0, p, m, rfl, ep, rfl, mB, ?_, by rw [means_eq, labJ]; exact m3⟩
        unfold lateP nowP
        rw [mB, htot, hal]
        rw [hll] at m2
        simpa using m2
  refine ⟨?_, ?_, ?_, ?_⟩
  · rw [whole_iff]
    intro i r j q hi hj
    obtain ⟨_, _, m, _, _, _, _, hm, _⟩ := ptA i r j q hi hj
    exact ⟨m, hm⟩
  · rw [whole_iff]
    intro i r j q hi hj
    obtain ⟨_, _, m, _, _, _, hm, _⟩ := ptB i r j q hi hj
    exact ⟨m, hm⟩
  · apply List.ext_getElem?
    intro i
    by_cases hig : i < gap
    · cases e : rs[i]? with
      | none => have := List.getElem?_eq_none_iff.mp e; omega
      | some r0 =>
        have hA : (HA rs gap)[i]? = some (halfRow rs.length gap i r0) := by rw [HA_get hig, e]; rfl
        rw [join_get_a hA]
        congr 1
        have : (halfRow rs.length gap i r0).pts.map (lateP w (HA rs gap) 0 ((HA rs gap).length + (HB rs gap).length) i) = r0.pts := by
          apply List.ext_getElem?
          intro j
          rw [List.getElem?_map]
          cases eq : (halfRow rs.length gap i r0).pts[j]? with
          | none =>
            have : r0.pts[j]? = none := by
              simp only [halfRow, List.getElem?_map, Option.map_eq_none_iff] at eq
              exact eq
            rw [this]; rfl
          | some q =>
            obtain ⟨r1, p, m, _, h1, h2, _, _, h5, _⟩ := ptA i _ j q hA eq
            rw [e] at h1
            cases h1
            rw [h2]
            simp [h5]
        rw [this]
        rfl
    · obtain ⟨k, rfl⟩ : ∃ k, i = gap + k := ⟨i - gap, by omega⟩
      cases e : rs[gap + k]? with
      | none =>
        have := List.getElem?_eq_none_iff.mp e
        rw [List.getElem?_eq_none_iff, joinR_len]
        omega
      | some r0 =>
        have hB : (HB rs gap)[k]? = some (halfRow rs.length gap (gap + k) r0) := by rw [HB_get, e]; rfl
        have hj := join_get_b (w := w) (a := HA rs gap) hB
        rw [hal] at hj
        rw [hj]
        congr 1
        have : (halfRow rs.length gap (gap + k) r0).pts.map (lateP w (HB rs gap) gap (gap + (HB rs gap).length) k) = r0.pts := by
          apply List.ext_getElem?
          intro j
          rw [List.getElem?_map]
          cases eq : (halfRow rs.length gap (gap + k) r0).pts[j]? with
          | none =>
            have : r0.pts[j]? = none := by
              simp only [halfRow, List.getElem?_map, Option.map_eq_none_iff] at eq
              exact eq
            rw [this]; rfl
          | some q =>
            obtain ⟨r1, p, m, h1, h2, _, _, h5, _⟩ := ptB k _ j q hB eq
            rw [e] at h1
            cases h1
            rw [hal] at h5
            rw [h2]
            simp [h5]
        rw [this]
        rfl
  · rw [lost_iff]
    refine ⟨fun i r j q hi hj m' hm' => ?_, fun i r j q hi hj m' hm' => ?_⟩
    · obtain ⟨r0, p, m, h0, h1, h2, h3, h4, h5, h6⟩ := ptA i r j q hi hj
      rw [h4] at hm'
      cases hm'
      rw [h5, Nat.zero_add, h6, Nat.zero_add]
    · obtain ⟨r0, p, m, h1, h2, h3, h4, h5, h6⟩ := ptB i r j q hi hj
      rw [h4] at hm'
      cases hm'
      rw [h5, hal, h6]
theorem join_clear {w : Ws} {rs a b : List Row} {gap : Nat} (hg : a.length = gap) (htot : a.length + b.length = rs.length) (wa : whole a = true) (wb : whole b = true) (hj : joinR w a b = rs) (hl : lostJ w a b = []) : barsL w rs gap = [] := by
  rw [whole_iff] at wa wb
  obtain ⟨cA, cB⟩ := lost_iff.mp hl
  have hlab : a.map Row.lab ++ b.map Row.lab = rs.map Row.lab := by rw [← join_lab w a b, hj]
  have hal : (a.map Row.lab).length = gap := by rw [List.length_map, hg]
  have labA : a.map Row.lab = (rs.map Row.lab).take gap := by rw [← hlab, List.take_left' hal]
  have labB : b.map Row.lab = (rs.map Row.lab).drop gap := by rw [← hlab, List.drop_left' hal]
  have hll : (rs.map Row.lab).length = rs.length := List.length_map ..
  have hgl : gap ≤ rs.length := by omega
  unfold barsL
  rw [List.filter_eq_nil_iff]
  rintro ⟨i, pl⟩ hx hb
  obtain ⟨p, hp⟩ := spots_mem.mp hx
  dsimp only at hp
  have hp' := hp
  unfold ptAt at hp'
  obtain ⟨r, hr, hpl⟩ := Option.bind_eq_some_iff.mp hp'
  have hil := (List.getElem?_eq_some_iff.mp hr).1
  have horg : ∃ q, Org w (rs.map Row.lab) gap i p q := by
    rw [← hj] at hr
    by_cases hig : i < gap
    · have e : a[i]? = some a[i] := List.getElem?_eq_getElem (by omega)
      rw [join_get_a e] at hr
      cases hr
      rw [List.getElem?_map] at hpl
      cases eq : (a[i]).pts[pl]? with
      | none => rw [eq] at hpl; cases hpl
      | some q =>
        rw [eq] at hpl
        simp only [Option.map_some, Option.some.injEq] at hpl
        obtain ⟨m, hm⟩ := wa i _ pl q e eq
        have hc := cA i _ pl q e eq m hm
        rw [hpl, hj, Nat.zero_add, Nat.zero_add] at hc
        refine ⟨q, m, ?_, ?_, ?_⟩
        · unfold locL offG
          rw [if_pos hig, if_pos hig, Nat.sub_zero, ← labA, ← means_eq]
          exact hm
        · unfold offG
          rw [if_pos hig, Nat.zero_add, hll]
          unfold lateP nowP at hpl
          rw [hm, htot, Nat.zero_add] at hpl
          simpa using hpl
        · unfold offG
          rw [if_pos hig, Nat.zero_add, ← means_eq]
          exact hc
    · obtain ⟨k, rfl⟩ : ∃ k, i = gap + k := ⟨i - gap, by omega⟩
      have e : b[k]? = some b[k] := List.getElem?_eq_getElem (by omega)
      have hjb := join_get_b (w := w) (a := a) e
      rw [hg] at hjb
      rw [hjb] at hr
      cases hr
      rw [List.getElem?_map] at hpl
      cases eq : (b[k]).pts[pl]? with
      | none => rw [eq] at hpl; cases hpl
      | some q =>
        rw [eq] at hpl
        simp only [Option.map_some, Option.some.injEq] at hpl
        obtain ⟨m, hm⟩ := wb k _ pl q e eq
        have hc := cB k _ pl q e eq m hm
        rw [hg] at hc
        rw [hpl, hj] at hc
        refine ⟨q, m, ?_, ?_, ?_⟩
        · unfold locL offG
          rw [if_neg hig, if_neg hig, show gap + k - gap = k by omega, ← labB, ← means_eq]
          exact hm
        · unfold offG
          rw [if_neg hig, hll]
          unfold lateP nowP at hpl
          rw [hm, show gap + b.length = rs.length by omega] at hpl
          simpa using hpl
        · unfold offG
          rw [if_neg hig, ← means_eq]
          exact hc
  obtain ⟨q, ho⟩ := horg
  obtain ⟨M, h1, h2, _⟩ := org_B (by rw [hll]; exact hgl) (by rw [hll]; exact hil) ho
  rw [hll] at h2
  unfold bars at hb
  dsimp only at hb
  rw [hp] at hb
  dsimp only at hb
  rw [means_eq, h1] at hb
  dsimp only at hb
  rw [h2] at hb
  cases hb
end Pu

/-! text: Q29 -/
set_option Elab.async false
set_option linter.all false
set_option maxRecDepth 100000
set_option maxHeartbeats 4000000
namespace Pu
open PySem PySem.Spec L2 Sm Wk
theorem sl_tail (d : D) (ds : List D) (h : ds.length ≤ 6) (S : Sto) : sliceT (.tup (d :: ds)) (some 1) none S = .ok (.tup ds) S := by
  match ds, h with
  | [], _ => rfl
  | [_], _ => rfl
  | [_, _], _ => rfl
  | [_, _, _], _ => rfl
  | [_, _, _, _], _ => rfl
  | [_, _, _, _, _], _ => rfl
  | [_, _, _, _, _, _], _ => rfl
  | _ :: _ :: _ :: _ :: _ :: _ :: _ :: _, h => simp at h
theorem sl_tail0 (S : Sto) : sliceT (.tup []) (some 1) none S = .ok (.tup []) S := rfl
theorem sl_last (ds : List D) (h : ds.length ≤ 6) (S : Sto) : sliceT (.tup ds) none (some (-1)) S = .ok (.tup ds.dropLast) S := by
  match ds, h with
  | [], _ => rfl
  | [_], _ => rfl
  | [_, _], _ => rfl
  | [_, _, _], _ => rfl
  | [_, _, _, _], _ => rfl
  | [_, _, _, _, _], _ => rfl
  | [_, _, _, _, _, _], _ => rfl
  | _ :: _ :: _ :: _ :: _ :: _ :: _ :: _, h => simp at h
def altLab (l : Option Str) : Option Str := if l = some ("a" : Str) then none else some "a"
def bentL (r : Row) (t : List Row) : List (List Row) := [r :: t, ⟨altLab r.lab, r.pts⟩ :: t, ⟨r.lab, r.pts.drop 1⟩ :: t, (r :: t).dropLast, (r :: t).reverse]
theorem law_bent (r : Row) (t : List Row) (h : (r :: t).length ≤ 6) (hp : r.pts.length ≤ 2) (S : Sto) : m__law_bent [rowsD (r :: t)] S = .ok (.lst ((bentL r t).map rowsD)) S := by
  have ht : (t.map Row.d).length ≤ 6 := by simp at h ⊢; omega
  have s1 := sl_tail r.d (t.map Row.d) ht
  have s2 := sl_last ((r :: t).map Row.d) (by simpa using h)
  have s3 : ∀ S, sliceT (.tup (r.pts.map Pt.d)) (some 1) none S = .ok (.tup ((r.pts.drop 1).map Pt.d)) S := fun S => by
    match hq : r.pts, hp with
    | [], _ => rfl
    | [_], _ => rfl
    | [_, _], _ => rfl
  have le := fun S => lab_eq r "a" S
  have ea : ∀ (x : D) (S : Sto), addA (.tup [x]) (.tup (t.map Row.d)) S = some (.tup (x :: t.map Row.d)) := fun x S => e_addT (a := [x]) (by simp at ht ⊢; omega) S
  unfold m__law_bent b__law_bent
  simp only [rowsD, List.map_cons] at s1 s2 ⊢
  simp only [Row.d] at s1 s2
  by_cases hl : r.lab = some ("a" : Str)
  · rw [decide_eq_true hl] at le
    have ha : labD (altLab r.lab) = .non := by rw [show altLab r.lab = none from if_pos hl]; rfl
    simp [Row.d, le, s1, s2, s3, ea, bentL, ha, revT, rowsD]
  · rw [decide_eq_false hl] at le
    have ha : labD (altLab r.lab) = .str "a" := by rw [show altLab r.lab = some "a" from if_neg hl]; rfl
    simp [Row.d, le, s1, s2, s3, ea, bentL, ha, revT, rowsD]
end Pu

/-! text: Q30 -/
set_option Elab.async false
set_option linter.all false
set_option maxRecDepth 100000
set_option maxHeartbeats 4000000
namespace Sm
open PySem PySem.Spec L2
@[simp] theorem e_isB (n a b : Bool) (S : Sto) : isB n (.bl a) (.bl b) S = some (.bl (if n then !decide (a = b) else decide (a = b))) := rfl
@[simp] theorem e_iso22 (fs : List D) (S : Sto) : isoD 4 [.ins 2 fs, .cls 2] S = some (.bl true) := rfl
@[simp] theorem e_iso32 (fs : List D) (S : Sto) : isoD 4 [.ins 3 fs, .cls 2] S = some (.bl false) := rfl
@[simp] theorem e_isK2 (fs : List D) : isK 2 (.ins 2 fs) = true := rfl
@[simp] theorem e_isK3 (fs : List D) : isK 2 (.ins 3 fs) = false := rfl
end Sm
namespace Pu
open PySem PySem.Spec L2 Sm Wk
def bents : List Row → List (List Row)
  | [] => [[]]
  | r :: t => bentL r t
theorem bents_good {rs : List Row} (hG : goodRows rs) : ∀ x ∈ bents rs, goodRows x := by
  intro x hx
  cases rs with
  | nil =>
    simp [bents] at hx
    subst hx
    exact hG
  | cons r t =>
    have hr := hG.2 r List.mem_cons_self
    have ht : ∀ q ∈ t, q.ok := fun q hq => hG.2 q (List.mem_cons_of_mem _ hq)
    have hlen := hG.1
    simp only [List.length_cons] at hlen
    have mk : ∀ r' : Row, r'.ok → goodRows (r' :: t) := fun r' h => ⟨by simpa using hlen, fun q hq => by
      rcases List.mem_cons.mp hq with rfl | hq
      · exact h
      · exact ht q hq⟩
    simp only [bents, bentL, List.mem_cons, List.not_mem_nil, or_false] at hx
    rcases hx with rfl | rfl | rfl | rfl | rfl
    · exact hG
    · refine mk _ ⟨?_, hr.2⟩
      show altLab r.lab = none ∨ _
      unfold altLab
      split
      · exact .inl rfl
      · exact .inr ⟨_, rfl, .inl rfl⟩
    · exact mk _ ⟨hr.1, by simp; have := hr.2.1; omega, fun p hp => hr.2.2 p (List.mem_of_mem_drop hp)⟩
    · exact ⟨by rw [List.length_dropLast]; simp only [List.length_cons]; omega, fun q hq => hG.2 q (List.dropLast_subset _ hq)⟩
    · exact ⟨by rw [List.length_reverse]; exact hG.1, fun q hq => hG.2 q (List.mem_reverse.mp hq)⟩
def gE (w : Ws) (rs : List Row) (gap : Nat) (x4 x5 x6 both x9 x10 : Slot) : Sm.Env := [.val w.d, .val (wayD w), .val (rowsD rs), .val (.int (gap : Int)), x4, x5, x6, .val (stepsD rs), both, x9, x10]
section
variable (w : Ws) (rs : List Row) (hG : goodRows rs) (gap : Nat) (hg : gap ≤ rs.length)
include hG hg
theorem gr_in (x4 x5 both : Slot) (one : List Row) (ho : goodRows one) (S : Sto) : ∀ (ys : List (List Row)) (x9 x10 : Slot), (∀ y ∈ ys, goodRows y) → ∃ y9 y10, Sm.forM (.one 9) lp__law_gap_right_0 (ys.map rowsD) (gE w rs gap x4 x5 (.val (rowsD one)) both x9 x10) S = .ok (.nx (gE w rs gap x4 x5 (.val (rowsD one)) both y9 y10)) S
  | [], x9, x10, _ => ⟨x9, x10, rfl⟩
  | y :: ys, x9, x10, hy => by
    have hy0 := hy y List.mem_cons_self
    obtain ⟨y9, y10, ih⟩ := gr_in x4 x5 both one ho S ys (.val (rowsD y)) (.val (.bl (showsH w rs gap one y))) fun z hz => hy z (List.mem_cons_of_mem _ hz)
    have h1 := law_are_halves w rs hG.1 gap one y ho.1 hy0.1 (pts2 ho) (pts2 hy0)
    have h2 := halves_shows w rs hG.1 gap hg one y ho.1 hy0.1 (pts2 ho) (pts2 hy0)
    have i1 := steps_init one ho.2 ho.1
    have i2 := steps_init y hy0.2 hy0.1
    refine ⟨y9, y10, ?_⟩
    rw [List.map_cons, e_forC]
    have eb : bindD (.one 9) (rowsD y) (gE w rs gap x4 x5 (.val (rowsD one)) both x9 x10) = some (gE w rs gap x4 x5 (.val (rowsD one)) both (.val (rowsD y)) x10) := rfl
    rw [eb]
    dsimp only
    have key : lp__law_gap_right_0 (gE w rs gap x4 x5 (.val (rowsD one)) both (.val (rowsD y)) x10) S = .ok (.nx (gE w rs gap x4 x5 (.val (rowsD one)) both (.val (rowsD y)) (.val (.bl (showsH w rs gap one y))))) S := by
      unfold lp__law_gap_right_0 gE
      simp only [halvesI, stepsD] at h2
      simp [h1, i1, i2, halves_init, h2, stepsD]
    rw [key]
    exact ih
theorem gr_out (x4 x5 : Slot) (a b : List Row) (hb : goodRows b) (S : Sto) : ∀ (xs : List (List Row)) (x6 x9 x10 : Slot), (∀ x ∈ xs, goodRows x) → ∃ y6 y9 y10, Sm.forM (.one 6) lp__law_gap_right_1 (xs.map rowsD) (gE w rs gap x4 x5 x6 (.val (.tup [rowsD a, rowsD b])) x9 x10) S = .ok (.nx (gE w rs gap x4 x5 y6 (.val (.tup [rowsD a, rowsD b])) y9 y10)) S
  | [], x6, x9, x10, _ => ⟨x6, x9, x10, rfl⟩
  | x :: xs, x6, x9, x10, hx => by
    have hx0 := hx x List.mem_cons_self
    obtain ⟨z9, z10, hin⟩ := gr_in w rs hG gap hg x4 x5 (.val (.tup [rowsD a, rowsD b])) x hx0 S (bents b) x9 x10 (bents_good hb)
    obtain ⟨y6, y9, y10, ih⟩ := gr_out x4 x5 a b hb S xs (.val (rowsD x)) z9 z10 fun z hz => hx z (List.mem_cons_of_mem _ hz)
    have hne := fun S => (rows_eq b [] S).2
    refine ⟨y6, y9, y10, ?_⟩
    rw [List.map_cons, e_forC]
    have eb : bindD (.one 6) (rowsD x) (gE w rs gap x4 x5 x6 (.val (.tup [rowsD a, rowsD b])) x9 x10) = some (gE w rs gap x4 x5 (.val (rowsD x)) (.val (.tup [rowsD a, rowsD b])) x9 x10) := rfl
    rw [eb]
    dsimp only
    have key : lp__law_gap_right_1 (gE w rs gap x4 x5 (.val (rowsD x)) (.val (.tup [rowsD a, rowsD b])) x9 x10) S = .ok (.nx (gE w rs gap x4 x5 (.val (rowsD x)) (.val (.tup [rowsD a, rowsD b])) z9 z10)) S := by
      unfold lp__law_gap_right_1
      simp only [gE] at hin ⊢
      have hne' : ∀ S, neD (rowsD b) (.tup []) S = some (.bl (!decide (b = []))) := hne
      cases b with
      | nil =>
        simp only [bents, List.map_cons, List.map_nil] at hin
        have : rowsD ([] : List Row) = .tup [] := rfl
        rw [this] at hin hne' ⊢
        simp [hne', hin]
      | cons r t =>
        have hbt := law_bent r t hb.1 (hb.2 r List.mem_cons_self).2.1
        simp only [bents] at hin
        simp [hne', hbt, hin]
    rw [key]
    exact ih
theorem gr_spots (x4 x6 both x9 x10 : Slot) (S : Sto) : ∀ (xs : List (Nat × Nat)) (x5 : Slot), ∃ y5, Sm.forM (.one 5) lp__law_gap_right_2 (xs.map spD) (gE w rs gap x4 x5 x6 both x9 x10) S = .ok (.nx (gE w rs gap x4 y5 x6 both x9 x10)) S
  | [], x5 => ⟨x5, rfl⟩
  | x :: xs, x5 => by
    obtain ⟨y5, ih⟩ := gr_spots x4 x6 both x9 x10 S xs (.val (spD x))
    have h1 := barred_shows w rs hG gap hg x
    have h2 := law_does_bar w rs (by have := hG.1; omega) (pts2 hG) gap x
    refine ⟨y5, ?_⟩
    rw [List.map_cons, e_forC]
    have eb : bindD (.one 5) (spD x) (gE w rs gap x4 x5 x6 both x9 x10) = some (gE w rs gap x4 (.val (spD x)) x6 both x9 x10) := rfl
    rw [eb]
    dsimp only
    have key : lp__law_gap_right_2 (gE w rs gap x4 (.val (spD x)) x6 both x9 x10) S = .ok (.nx (gE w rs gap x4 (.val (spD x)) x6 both x9 x10)) S := by
      unfold lp__law_gap_right_2 gE
      simp [barred_init, h1, h2]
    rw [key]
    exact ih
end
theorem HA_good {w : Ws} {rs : List Row} {gap : Nat} (hG : goodRows rs) (hg : gap ≤ rs.length) (h : barsL w rs gap = []) : goodRows (HA rs gap) ∧ goodRows (HB rs gap) := by
  have hok := mapH_ok hG hg h
  rw [H_split rs gap hg] at hok
  have := hG.1
  exact ⟨⟨by rw [HA_len rs gap hg]; omega, fun r hr => hok r (List.mem_append_left _ hr)⟩, ⟨by rw [HB_len]; omega, fun r hr => hok r (List.mem_append_right _ hr)⟩⟩
end Pu

/-! text: Q31 -/
set_option Elab.async false
set_option linter.all false
set_option maxRecDepth 100000
set_option maxHeartbeats 4000000
namespace Sm
open PySem PySem.Spec L2
theorem cutT_to (ds : List D) (k : Nat) (S : Sto) : sliceT (.tup ds) none (some (k : Int)) S = .ok (.tup (ds.take k)) S := by
  have h := cut_to ds k S
  have : cutL ds none (some (k : Int)) = ds.take k := by
    have h' : Res.ok (cutL ds none (some (k : Int))) S = Res.ok (ds.take k) S := h
    injection h'
  show Res.ok (D.tup (cutL ds none (some (k : Int)))) S = _
  rw [this]
theorem cutT_from (ds : List D) (k : Nat) (S : Sto) : sliceT (.tup ds) (some (k : Int)) none S = .ok (.tup (ds.drop k)) S := by
  have h := cut_from ds k S
  have : cutL ds (some (k : Int)) none = ds.drop k := by
    have h' : Res.ok (cutL ds (some (k : Int)) none) S = Res.ok (ds.drop k) S := h
    injection h'
  show Res.ok (D.tup (cutL ds (some (k : Int)) none)) S = _
  rw [this]
end Sm
namespace Pu
open PySem PySem.Spec L2 Sm Wk
theorem spots_more (rs : List Row) (hl : rs.length ≤ 10) (hpt : ∀ r ∈ rs, r.pts.length ≤ 2) (S : Sto) : addL (.lst ((spots rs).map spD)) (.lst [.tup [.int 9, .int 0], .tup [.int 0, .int 9], .tup [.int 0, .int 2]]) S = some ((spots rs ++ [(9, 0), (0, 9), (0, 2)]).map spD) := by
  have := spotsL_len 0 0 rs hpt
  rw [e_addL (by simp [spots]; omega), List.map_append]
  rfl
theorem gap_right (w : Ws) (rs : List Row) (hG : goodRows rs) (gap : Nat) (hg : gap ≤ rs.length) (S : Sto) : m__law_gap_right [w.d, wayD w, rowsD rs, .int (gap : Int)] S = .ok (.bl true) S := by
  have hl := hG.1
  have i0 := steps_init rs hG.2 hl
  have hlh := law_halves w rs hG gap hg
  have hta := take_apart w rs hG gap hg
  have hsp := law_spots rs (by omega) (pts2 hG)
  have hmore := spots_more rs (by omega) (pts2 hG)
  cases hb : barsL w rs gap with
  | cons x xs =>
    have hd : halvesD w rs gap = .non := by unfold halvesD; rw [hb]; simp
    have ha : answerD w rs gap = .ins 3 [spD x] := by unfold answerD; rw [hb]
    rw [hd] at hlh
    rw [ha] at hta
    have hbx : bars w rs gap x = true := by
      have : x ∈ barsL w rs gap := by rw [hb]; exact List.mem_cons_self
      exact (List.mem_filter.mp this).2
    have hsh := barred_shows w rs hG gap hg x
    rw [hbx] at hsh
    obtain ⟨y5, hloop⟩ := gr_spots w rs hG gap hg (.val (.ins 3 [spD x])) .no (.val .non) .no .no S (spots rs ++ [(9, 0), (0, 9), (0, 2)]) .no
    have c1 := cutT_to (rs.map Row.d) gap
    have c2 := cutT_from (rs.map Row.d) gap
    rw [← List.map_take] at c1
    rw [← List.map_drop] at c2
    have gA : goodRows (rs.take gap) := ⟨by rw [List.length_take]; omega, fun r hr => hG.2 r (List.mem_of_mem_take hr)⟩
    have gB : goodRows (rs.drop gap) := ⟨by rw [List.length_drop]; omega, fun r hr => hG.2 r (List.mem_of_mem_drop hr)⟩
    have i1 := steps_init (rs.take gap) gA.2 gA.1
    have i2 := steps_init (rs.drop gap) gB.2 gB.1
    have hs2 := halves_shows w rs hl gap hg (rs.take gap) (rs.drop gap) gA.1 gB.1 (pts2 gA) (pts2 gB)
    have hf : showsH w rs gap (rs.take gap) (rs.drop gap) = false := by
      cases hh : showsH w rs gap (rs.take gap) (rs.drop gap) with
      | false => rfl
      | true =>
        exfalso
        unfold showsH at hh
        simp only [Bool.and_eq_true, decide_eq_true_eq] at hh
        obtain ⟨⟨h1, h2⟩, h3, h4, h5, h6⟩ := hh
        have := join_clear h1 h2 h3 h4 h5 h6
        rw [hb] at this
        cases this
    rw [hf] at hs2
    unfold m__law_gap_right
    rw [n__law_gap_right]
    simp only [gE, wayD, stepsD, halvesI, rowsD] at i0 hlh hta hsp hmore hsh hloop c1 c2 i1 i2 hs2
    simp only [wayD, rowsD]
    simp [i0, hlh, hta, hsh, hsp, hmore, hloop, c1, c2, i1, i2, halves_init, hs2, -List.map_append, -List.map_take, -List.map_drop]
  | nil =>
    have hd : halvesD w rs gap = .tup [rowsD (HA rs gap), rowsD (HB rs gap)] := by unfold halvesD; rw [hb]; simp
    have ha : answerD w rs gap = halvesI (HA rs gap) (HB rs gap) := by unfold answerD; rw [hb]
    rw [hd] at hlh
    rw [ha] at hta
    obtain ⟨gA, gB⟩ := HA_good hG hg hb
    obtain ⟨j1, j2, j3, j4⟩ := halves_join hG hg hb
    have hsh := halves_shows w rs hl gap hg (HA rs gap) (HB rs gap) gA.1 gB.1 (pts2 gA) (pts2 gB)
    have ht : showsH w rs gap (HA rs gap) (HB rs gap) = true := by
      unfold showsH
      simp only [Bool.and_eq_true, decide_eq_true_eq]
      refine ⟨⟨HA_len rs gap hg, ?_⟩, j1, j2, j3, j4⟩
      rw [HA_len rs gap hg, HB_len]
      omega
    rw [ht] at hsh
    obtain ⟨y5, hloop⟩ := gr_spots w rs hG gap hg (.val (halvesI (HA rs gap) (HB rs gap))) .no (.val (.tup [rowsD (HA rs gap), rowsD (HB rs gap)])) .no .no S (spots rs ++ [(9, 0), (0, 9), (0, 2)]) .no
    obtain ⟨z6, z9, z10, hout⟩ := gr_out w rs hG gap hg (.val (halvesI (HA rs gap) (HB rs gap))) y5 (HA rs gap) (HB rs gap) gB S (bents (HA rs gap)) .no .no .no (bents_good gA)
    have e1 := fun S => (rows_eq (HA rs gap) (HA rs gap) S).2
    have e2 := fun S => (rows_eq (HB rs gap) (HB rs gap) S).2
    rw [decide_eq_true rfl] at e1 e2
    have hne : ∀ S, neD (rowsD (HA rs gap)) (.tup []) S = some (.bl (!decide (HA rs gap = []))) := fun S => (rows_eq (HA rs gap) [] S).2
    have hany : ∀ (ρ : Sm.Env), ρ = gE w rs gap (.val (halvesI (HA rs gap) (HB rs gap))) y5 z6 (.val (.tup [rowsD (HA rs gap), rowsD (HB rs gap)])) z9 z10 → lcM (fun d => bindD (.one 5) d (wipeE ρ [5])) (fun ρ => (rt true)) ce__law_gap_right_0 ((spots rs).map spD) S = .ok ((spots rs).map fun x => .bl (bars w rs gap x)) S := fun ρ hρ => by
      subst hρ
      exact lc_map (S := S) (f := spD) (g := fun x => .bl (bars w rs gap x)) (spots rs) fun x _ => by
        have h2 := law_does_bar w rs (by omega) (pts2 hG) gap x
        refine ⟨_, rfl, ?_⟩
        unfold ce__law_gap_right_0 gE
        simp [wipeE, h2]
    have hany := hany _ rfl
    have ham := any_map (bars w rs gap) (spots rs)
    have hanyF : (spots rs).any (bars w rs gap) = false := by
      rw [List.any_eq_false]
      intro x hx hbx
      have : x ∈ barsL w rs gap := List.mem_filter.mpr ⟨hx, hbx⟩
      rw [hb] at this
      cases this
    rw [hanyF] at ham
    -- what is bent of the first half
    have hbe : ∀ S, (HA rs gap = [] ∧ (bents (HA rs gap)).map rowsD = [.tup []]) ∨ (¬ HA rs gap = [] ∧ m__law_bent [rowsD (HA rs gap)] S = .ok (.lst ((bents (HA rs gap)).map rowsD)) S) := fun S => by
      cases hH : HA rs gap with
      | nil => exact .inl ⟨rfl, rfl⟩
      | cons r t =>
        rw [hH] at gA
        exact .inr ⟨by simp, law_bent r t gA.1 (gA.2 r List.mem_cons_self).2.1 S⟩
    obtain ⟨A, hA⟩ : ∃ A, rowsD (HA rs gap) = A := ⟨_, rfl⟩
    obtain ⟨B, hB⟩ : ∃ B, rowsD (HB rs gap) = B := ⟨_, rfl⟩
    obtain ⟨bs, hbs⟩ : ∃ bs, (bents (HA rs gap)).map rowsD = bs := ⟨_, rfl⟩
    unfold m__law_gap_right
    rw [n__law_gap_right]
    simp only [gE, wayD, stepsD, halvesI, hA, hB, hbs] at i0 hlh hta hsp hmore hsh hloop hout e1 e2 hne hany ham hbe
    simp only [wayD]
    rcases hbe S with ⟨h1, h2⟩ | ⟨h1, h2⟩
    · rw [decide_eq_true h1] at hne
      rw [h2] at hout
      simp [i0, hlh, hta, hsh, hsp, hmore, hloop, steps_rows, e1, e2, hne, hout, hany, ham, -List.map_append]
    · rw [decide_eq_false h1] at hne
      simp [i0, hlh, hta, hsh, hsp, hmore, hloop, steps_rows, e1, e2, hne, h2, hout, hany, ham, -List.map_append]
end Pu

/-! text: Q32 -/
set_option Elab.async false
set_option linter.all false
set_option maxRecDepth 100000
set_option maxHeartbeats 4000000
namespace Pu
open PySem PySem.Spec L2 Sm Wk
def clearB (w : Ws) (rs : List Row) (g : Nat) : Bool := (barsL w rs g).isEmpty
def gStar (w : Ws) (rs : List Row) : Nat := ((List.range' 1 rs.length).find? (clearB w rs)).getD rs.length
def blk (w : Ws) : Nat → List Row → List (List Row)
  | 0, _ => []
  | n + 1, rs => if rs = [] then [] else HA rs (gStar w rs) :: blk w n (HB rs (gStar w rs))
theorem clear_len {w : Ws} {rs : List Row} (hw : whole rs = true) : barsL w rs rs.length = [] := by
  unfold barsL
  rw [List.filter_eq_nil_iff]
  rintro ⟨i, j⟩ hx hb
  obtain ⟨p, hp⟩ := spots_mem.mp hx
  dsimp only at hp
  have hp' := hp
  unfold ptAt at hp'
  obtain ⟨r, hr, hj⟩ := Option.bind_eq_some_iff.mp hp'
  have hil := (List.getElem?_eq_some_iff.mp hr).1
  obtain ⟨M, hM⟩ := whole_iff.mp hw i r j p hr hj
  have hML := means_lt hM
  unfold bars at hb
  dsimp only at hb
  rw [hp] at hb
  dsimp only at hb
  rw [hM] at hb
  dsimp only at hb
  unfold barsP at hb
  rw [decide_eq_true hML, decide_eq_true hil, if_pos rfl] at hb
  cases p with
  | lab l => cases hb
  | «at» k n =>
    cases k with
    | num =>
      have : ¬ rs.length ≤ i := by omega
      simp [barsQ, this] at hb
    | abv => cases hb
    | blw => cases hb
    | fin => simp [barsQ] at hb
theorem H_len {rs : List Row} : HA rs rs.length = rs ∧ HB rs rs.length = [] := by
  constructor
  · apply List.ext_getElem?
    intro i
    by_cases hi : i < rs.length
    · rw [HA_get hi]
      cases e : rs[i]? with
      | none => rfl
      | some r =>
        simp only [Option.map_some]
        congr 1
        unfold halfRow
        have : r.pts.map (pih rs.length rs.length i) = r.pts := by
          conv => rhs; rw [← List.map_id r.pts]
          apply List.map_congr_left
          intro p _
          cases p with
          | lab l => rfl
          | «at» k n =>
            have h2 : ¬ rs.length ≤ i := by omega
            cases k with
            | num => simp only [pih, if_neg h2, id]
            | abv => rfl
            | blw => rfl
            | fin =>
              simp only [pih, if_pos hi, id]
              congr 1
              omega
        rw [this]
    · rw [List.getElem?_eq_none_iff.mpr (by rw [HA_len rs _ (Nat.le_refl _)]; omega), List.getElem?_eq_none_iff.mpr (by omega)]
  · have := HB_len rs rs.length
    rw [Nat.sub_self] at this
    exact List.length_eq_zero_iff.mp this
theorem gStar_spec {w : Ws} {rs : List Row} (hw : whole rs = true) (hne : rs ≠ []) : (List.range' 1 rs.length).find? (clearB w rs) = some (gStar w rs) ∧ 1 ≤ gStar w rs ∧ gStar w rs ≤ rs.length ∧ barsL w rs (gStar w rs) = [] := by
  have hl : 0 < rs.length := List.length_pos_iff.mpr hne
  unfold gStar
  cases hf : (List.range' 1 rs.length).find? (clearB w rs) with
  | none =>
    exfalso
    have := List.find?_eq_none.mp hf rs.length (by rw [List.mem_range'_1]; omega)
    unfold clearB at this
    rw [clear_len hw] at this
    exact this rfl
  | some g =>
    have h1 := List.find?_some hf
    have h2 := List.mem_of_find?_eq_some hf
    rw [List.mem_range'_1] at h2
    unfold clearB at h1
    refine ⟨rfl, ?_, ?_, ?_⟩
    · simp; omega
    · simp; omega
    · simpa using h1
theorem HB_next {w : Ws} {rs : List Row} (hG : goodRows rs) (hw : whole rs = true) (hne : rs ≠ []) : goodRows (HB rs (gStar w rs)) ∧ whole (HB rs (gStar w rs)) = true ∧ (HB rs (gStar w rs)).length < rs.length := by
  obtain ⟨_, h1, h2, h3⟩ := gStar_spec (w := w) hw hne
  refine ⟨(HA_good hG h2 h3).2, (halves_join hG h2 h3).2.1, ?_⟩
  rw [HB_len]
  omega
theorem blk_stable (w : Ws) : ∀ (n m : Nat) (rs : List Row), goodRows rs → whole rs = true → rs.length ≤ n → rs.length ≤ m → blk w n rs = blk w m rs
  | 0, 0, _, _, _, _, _ => rfl
  | 0, m + 1, rs, _, _, h, _ => by
    have : rs = [] := List.length_eq_zero_iff.mp (by omega)
    subst this
    rfl
  | n + 1, 0, rs, _, _, _, h => by
    have : rs = [] := List.length_eq_zero_iff.mp (by omega)
    subst this
    rfl
  | n + 1, m + 1, rs, hG, hw, h1, h2 => by
    unfold blk
    by_cases he : rs = []
    · rw [if_pos he, if_pos he]
    · rw [if_neg he, if_neg he]
      obtain ⟨a, b, c⟩ := HB_next (w := w) hG hw he
      rw [blk_stable w n m _ a b (by omega) (by omega)]
def lp_blocks (fu : Nat) : Sm.Env → M Out := (fun ρ => bd (boolT (o2 eqD (bd (consM (vl ρ 0) (consM (vl ρ 1) (consM (vl ρ 2) (rt [])))) fun ds => callM 3 m_bars_of ds) (bd (lstM (rt [])) fun ds => rt (.lst ds)))) fun t => iteM t ((seqS (asgT (.tup [3, 4]) fun ρ => (bd (consM (vl ρ 1) (consM (vl ρ 2) (rt []))) fun ds => callM 2 m_halves_of ds))
  (fun ρ => bd (bd (lstM (consM (vl ρ 3) (appM (bd (bd (consM (vl ρ 0) (consM (bd (vl ρ 4) fun d => bd (insM 0 d) fun d => noX (callM 1 m_Steps_rows [d])) (rt []))) fun ds => callM 2 (m_blocks_of fu) ds) starM) (rt [])))) fun ds => rt (.lst ds)) fun d => rt (.ret d))) ρ) (nextS ρ))
theorem n_blocks_of (fu : Nat) : m_blocks_of (fu + 1) = fnM 5 (seqS (fun ρ => bd (range2M (consM (rt (.int 1)) (consM (c1 lenD (consM (vb ρ 1) (rt []))) (rt [])))) fun ds => forM (.one 2) (lp_blocks fu) ds ρ)
  (fun ρ => bd (bd (boolT (o2 neD (vb ρ 1) (tupM (rt [])))) fun t => iteM t (bd (lstM (consM (bd (consM (vl ρ 1) (rt [])) fun ds => callM 1 m_Steps_init ds) (rt []))) fun ds => rt (.lst ds)) (bd (lstM (rt [])) fun ds => rt (.lst ds))) fun d => rt (.ret d))) := rfl
theorem e_range2 {m : M (List D)} {S S' : Sto} {i j : Int} (h : m S = .ok [.int i, .int j] S') (h1 : 0 ≤ i ∧ i ≤ 1000) (h2 : 0 ≤ j ∧ j ≤ 1000) : range2M m S = .ok (rng i (j - i).toNat) S' := by
  unfold range2M bd
  rw [h]
  have e : ∀ k : Int, 0 ≤ k ∧ k ≤ 1000 → inI k = true := fun k hk => by
    unfold inI
    rw [decide_eq_true (by omega), decide_eq_true (by omega)]; rfl
  show (if (inI i && inI j) = true then _ else _) = _
  rw [e i h1, e j h2]
  rfl
theorem bl_loop (w : Ws) (rs : List Row) (hG : goodRows rs) (fu : Nat) (R : Nat → List D) (S : Sto) (IH : ∀ g, 1 ≤ g → g < rs.length → barsL w rs g = [] → m_blocks_of fu [w.d, rowsD (HB rs g)] S = .ok (.lst (R g)) S) (hR : ∀ g, (R g).length ≤ 100) : ∀ (c s : Nat) (x2 x3 x4 : Slot), 1 ≤ s → s + c = rs.length →
    (∀ g, (List.range' s c).find? (clearB w rs) = some g → Sm.forM (.one 2) (lp_blocks fu) (rng (s : Int) c) [.val w.d, .val (rowsD rs), x2, x3, x4] S = .ok (.ret (.lst (stepsD (HA rs g) :: R g))) S) ∧
    ((List.range' s c).find? (clearB w rs) = none → ∃ y2 y3 y4, Sm.forM (.one 2) (lp_blocks fu) (rng (s : Int) c) [.val w.d, .val (rowsD rs), x2, x3, x4] S = .ok (.nx [.val w.d, .val (rowsD rs), y2, y3, y4]) S)
  | 0, s, x2, x3, x4, _, _ => ⟨fun g h => by simp at h, fun _ => ⟨x2, x3, x4, by simp [rng]⟩⟩
  | c + 1, s, x2, x3, x4, hs, hc => by
    have hl := hG.1
    have hb := bars_of w rs (by omega) (pts2 hG) s
    have he := fun S => (eq_nilS (barsL w rs s) S).1
    obtain ⟨ihA, ihB⟩ := bl_loop w rs hG fu R S IH hR c (s + 1) (.val (.int (s : Int))) x3 x4 (by omega) (by omega)
    have eb : bindD (.one 2) (.int (s : Int)) [.val w.d, .val (rowsD rs), x2, x3, x4] = some [.val w.d, .val (rowsD rs), .val (.int (s : Int)), x3, x4] := rfl
    rw [List.range'_succ, List.find?_cons, rng_cons, e_forC, eb]
    dsimp only
    cases hcl : clearB w rs s with
    | true =>
      have hbl : barsL w rs s = [] := by unfold clearB at hcl; simpa using hcl
      rw [show (barsL w rs s).isEmpty = true from hcl] at he
      have hh := halves_of rs hl s (by omega) (pts2 hG) (mapH_ok hG (by omega) hbl)
      have hI := IH s hs (by omega) hbl
      have hRl : (R s).length + 1 ≤ 100000 := by have := hR s; omega
      refine ⟨fun g hg => ?_, fun h => by simp at h⟩
      have : s = g := by simpa using hg
      subst this
      have key : lp_blocks fu [.val w.d, .val (rowsD rs), .val (.int (s : Int)), x3, x4] S = .ok (.ret (.lst (stepsD (HA rs s) :: R s))) S := by
        unfold lp_blocks
        simp only [stepsD] at hh
        simp [hb, he, hh, steps_rows, hI, appM, starM, hRl, stepsD]
      rw [key]
    | false =>
      rw [show (barsL w rs s).isEmpty = false from hcl] at he
      have key : lp_blocks fu [.val w.d, .val (rowsD rs), .val (.int (s : Int)), x3, x4] S = .ok (.nx [.val w.d, .val (rowsD rs), .val (.int (s : Int)), x3, x4]) S := by
        unfold lp_blocks
        simp [hb, he]
      rw [key]
      dsimp only
      rw [show (s : Int) + 1 = ((s + 1 : Nat) : Int) by omega]
      exact ⟨ihA, ihB⟩
theorem blk_len (w : Ws) : ∀ (n : Nat) (rs : List Row), (blk w n rs).length ≤ n
  | 0, _ => by simp [blk]
  | n + 1, rs => by
    unfold blk
    split
    · simp
    · have := blk_len w n (HB rs (gStar w rs))
      simp only [List.length_cons]
      omega
theorem find_more {w : Ws} {rs : List Row} (hw : whole rs = true) (hne : rs ≠ []) : (∀ g, (List.range' 1 (rs.length - 1)).find? (clearB w rs) = some g → gStar w rs = g) ∧ ((List.range' 1 (rs.length - 1)).find? (clearB w rs) = none → gStar w rs = rs.length) := by
  have hl : 0 < rs.length := List.length_pos_iff.mpr hne
  have e : List.range' 1 rs.length = List.range' 1 (rs.length - 1) ++ [rs.length] := by
    have := List.range'_concat (s := 1) (n := rs.length - 1) (step := 1)
    rw [show rs.length - 1 + 1 = rs.length by omega] at this
    rw [this]
    congr 2
    omega
  unfold gStar
  rw [e, List.find?_append]
  constructor
  · intro g hg
    rw [hg]
    rfl
  · intro h
    rw [h]
    have : clearB w rs rs.length = true := by unfold clearB; rw [clear_len hw]; rfl
    simp [this]
theorem blocks_of (w : Ws) : ∀ (fu : Nat) (rs : List Row), fu ≤ 50 → goodRows rs → whole rs = true → rs.length < fu → ∀ S, m_blocks_of fu [w.d, rowsD rs] S = .ok (.lst ((blk w fu rs).map stepsD)) S
  | 0, rs, _, _, _, h, _ => by omega
  | fu + 1, rs, h50, hG, hw, hf, S => by
    have hl := hG.1
    have hr : ∀ ρ : Sm.Env, ρ[1]? = some (.val (rowsD rs)) → range2M (consM (rt (.int 1)) (consM (c1 lenD (consM (vb ρ 1) (rt []))) (rt []))) S = .ok (rng 1 (rs.length - 1)) S := fun ρ h => by
      rw [e_range2 (i := 1) (j := rs.length) (S' := S) (by simp [h, rowsD]) (by omega) (by omega)]
      congr 2
      omega
    have hne := fun S => (rows_eq rs [] S).2
    have hne' : ∀ S, neD (rowsD rs) (.tup []) S = some (.bl (!decide (rs = []))) := hne
    rw [n_blocks_of]
    by_cases he : rs = []
    · subst he
      have hb0 : blk w (fu + 1) [] = [] := by unfold blk; exact if_pos rfl
      rw [hb0]
      have hr' := hr
      simp only [List.length_nil] at hr'
      simp [hr', rng, hne']
    · rw [decide_eq_false he] at hne'
      have hb1 : blk w (fu + 1) rs = HA rs (gStar w rs) :: blk w fu (HB rs (gStar w rs)) := by
        conv => lhs; unfold blk
        exact if_neg he
      have hpos : 0 < rs.length := List.length_pos_iff.mpr he
      obtain ⟨fA, fB⟩ := find_more (w := w) hw he
      obtain ⟨lA, lB⟩ := bl_loop w rs hG fu (fun g => (blk w fu (HB rs g)).map stepsD) S (fun g g1 g2 gc => by
        refine blocks_of w fu _ (by omega) (HA_good hG (by omega) gc).2 (halves_join hG (by omega) gc).2.1 ?_ S
        rw [HB_len]
        omega) (fun g => by rw [List.length_map]; have := blk_len w fu (HB rs g); omega) (rs.length - 1) 1 .no .no .no (Nat.le_refl _) (by omega)
      rw [hb1]
      cases hfnd : (List.range' 1 (rs.length - 1)).find? (clearB w rs) with
      | some g =>
        have h := lA g hfnd
        rw [fA g hfnd]
        simp only [Int.natCast_one] at h
        simp [hr, h]
      | none =>
        obtain ⟨y2, y3, y4, h⟩ := lB hfnd
        have hg := fB hfnd
        obtain ⟨e1, e2⟩ := H_len (rs := rs)
        rw [hg, e1, e2]
        have i0 := steps_init rs hG.2 hl
        have hb0 : blk w fu [] = [] := by cases fu <;> simp [blk]
        rw [hb0]
        simp only [Int.natCast_one] at h
        simp [hr, h, hne', i0, stepsD]
end Pu

/-! text: Q33 -/
set_option Elab.async false
set_option linter.all false
set_option maxRecDepth 100000
set_option maxHeartbeats 4000000
namespace Pu
open PySem PySem.Spec L2 Sm Wk
theorem blocks (w : Ws) (rs : List Row) (hG : goodRows rs) (hw : whole rs = true) (S : Sto) : m_blocks [wayD w, stepsD rs] S = .ok (.lst ((blk w 8 rs).map stepsD)) S := by
  have hl := hG.1
  have hb := blocks_of w 8 rs (by omega) hG hw (by omega)
  have haw := are_whole rs (by omega) (pts2 hG)
  rw [hw] at haw
  have hcw : ∀ S, m_check_whole_by [wayD w, stepsD rs] S = .ok .non S := fun S => by
    unfold m_check_whole_by b_check_whole_by wayD stepsD
    simp [check_way, check_steps, steps_rows, haw]
  unfold m_blocks b_blocks
  simp only [wayD, stepsD] at hcw ⊢
  simp [hcw, way_words, steps_rows, hb]
def bothD (rs : List Row) (g : Nat) : D := .tup [rowsD (HA rs g), rowsD (HB rs g)]
theorem clean_up : ∀ (n : Nat) (d : D), clean n d = true → clean (n + 1) d = true := by
  intro n
  induction n with
  | zero => intro d h; cases d <;> simp [clean] at h ⊢
  | succ n ih =>
    intro d h
    cases d with
    | tup ds =>
      simp only [clean, List.all_eq_true] at h ⊢
      exact fun x hx => ih x (h x hx)
    | lst ds =>
      simp only [clean, List.all_eq_true] at h ⊢
      exact fun x hx => ih x (h x hx)
    | _ => first | rfl | (simp [clean] at h)
theorem ne_nilC (xs : List D) (h : xs.all (clean 5) = true) (S : Sto) : neD (.lst xs) (.lst []) S = some (.bl (!xs.isEmpty)) := by
  obtain ⟨b, h1, h2, h3⟩ := eq_clean (n := 6) (by decide) (d := .lst xs) (e := .lst []) (by simpa [clean] using h) (by simp [clean])
  have : b = xs.isEmpty := by
    cases xs with
    | nil => exact h3.mpr rfl
    | cons x xs =>
      have e : b = false := Bool.eq_false_iff.mpr (fun hb => by have := h3.mp hb; simp at this)
      rw [e]
      rfl
  rw [h2, this]
theorem both_clean (rs : List Row) (g : Nat) : clean 5 (bothD rs g) = true := by
  have h1 := rows_clean (HA rs g)
  have h2 := rows_clean (HB rs g)
  unfold bothD
  simp [clean, h1, h2]
def lbE (w : Ws) (rs0 : List Row) (x2 found x4 x5 x6 x7 : Slot) : Sm.Env := [.val w.d, .val (rowsD rs0), x2, found, x4, x5, x6, x7]
theorem lb_step (w : Ws) (rs0 rest : List Row) (hG : goodRows rest) (hw : whole rest = true) (acc : List (List Row)) (hc : acc.length ≤ 100) (x2 x5 x6 x7 : Slot) (S : Sto) :
    ∃ y5, lp__law_blocks_0 (lbE w rs0 x2 (.own (acc.map rowsD)) (.val (rowsD rest)) x5 x6 x7) S = .ok (.nx (lbE w rs0 x2 (.own ((if rest = [] then acc else acc ++ [HA rest (gStar w rest)]).map rowsD)) (.val (rowsD (if rest = [] then [] else HB rest (gStar w rest)))) y5 x6 x7)) S := by
  have hl := hG.1
  have hr : ∀ ρ : Sm.Env, ρ[4]? = some (.val (rowsD rest)) → range2M (consM (rt (.int 1)) (consM (o2 addA (c1 lenD (consM (vb ρ 4) (rt []))) (rt (.int 1))) (rt []))) S = .ok (rng 1 rest.length) S := fun ρ h => by
    rw [e_range2 (i := 1) (j := rest.length + 1) (S' := S) (by simp [h, rowsD]) (by omega) (by omega)]
    congr 2
    omega
  have hlc := lc_map (S := S) (bnd := fun d => bindD (.one 6) d (wipeE (lbE w rs0 x2 (.own (acc.map rowsD)) (.val (rowsD rest)) x5 x6 x7) [6])) (e := ce__law_blocks_1) (f := fun i : Nat => D.int (i : Int)) (g := fun g : Nat => halvesD w rest g) (List.range' 1 rest.length) fun g hg => by
    have h1 := law_halves w rest hG g (by rw [List.mem_range'_1] at hg; omega)
    refine ⟨_, rfl, ?_⟩
    unfold ce__law_blocks_1 lbE
    simp [wipeE, h1]
  have hrg : rng 1 rest.length = (List.range' 1 rest.length).map fun i : Nat => D.int (i : Int) := by
    unfold rng
    rw [List.range'_eq_map_range, List.map_map]
    apply List.map_congr_left
    intro i _
    simp
  rw [← hrg] at hlc
  have hlc2 := lc_mapF (S := S) (bnd := fun d => bindD (.one 7) d (wipeE (lbE w rs0 x2 (.own (acc.map rowsD)) (.val (rowsD rest)) (.own ((List.range' 1 rest.length).map fun g : Nat => halvesD w rest g)) x6 x7) [7])) (t := ct__law_blocks_0) (e := ce__law_blocks_0) (f := fun g : Nat => halvesD w rest g) (g := fun g : Nat => bothD rest g) (p := clearB w rest) (List.range' 1 rest.length) fun g _ => by
    refine ⟨_, rfl, ?_, fun hp => ?_⟩
    · unfold ct__law_blocks_0 lbE
      cases hcl : clearB w rest g with
      | true =>
        have : barsL w rest g = [] := by unfold clearB at hcl; simpa using hcl
        have hd : halvesD w rest g = bothD rest g := by unfold halvesD bothD; exact if_pos this
        simp [wipeE, hd, bothD]
      | false =>
        have : ¬ barsL w rest g = [] := by
          intro z
          unfold clearB at hcl
          rw [z] at hcl
          cases hcl
        have hd : halvesD w rest g = .non := by unfold halvesD; exact if_neg this
        simp [wipeE, hd]
    · have : barsL w rest g = [] := by unfold clearB at hp; simpa using hp
      have hd : halvesD w rest g = bothD rest g := by unfold halvesD bothD; exact if_pos this
      unfold ce__law_blocks_0 lbE
      simp [wipeE, hd]
  obtain ⟨cs, hcs⟩ : ∃ cs, (List.range' 1 rest.length).filter (clearB w rest) = cs := ⟨_, rfl⟩
  rw [hcs] at hlc2
  have hne := ne_nilC (cs.map (bothD rest)) (by
    rw [List.all_map, List.all_eq_true]
    intro g _
    exact both_clean rest g)
  have hcc : acc.length < 100000 := by omega
  by_cases he : rest = []
  · subst he
    have : cs = [] := by rw [← hcs]; rfl
    subst this
    refine ⟨.own [], ?_⟩
    rw [if_pos rfl, if_pos rfl]
    unfold lp__law_blocks_0
    simp only [lbE] at hlc hlc2 ⊢
    simp only [List.length_nil, List.range'_zero, List.map_nil, List.isEmpty_nil] at hne hlc2 hlc hr
    simp [hr, hlc, ownM_l, hlc2, hne]
  · obtain ⟨f1, f2, f3, f4⟩ := gStar_spec (w := w) hw he
    rw [if_neg he, if_neg he]
    rw [← List.head?_filter, hcs] at f1
    cases cs with
    | nil => cases f1
    | cons g cs =>
      have hg : g = gStar w rest := by simpa using f1
      subst hg
      refine ⟨.own (bothD rest (gStar w rest) :: cs.map (bothD rest)), ?_⟩
      unfold lp__law_blocks_0
      simp only [lbE] at hlc hlc2 ⊢
      obtain ⟨ms, hms⟩ : ∃ ms, cs.map (bothD rest) = ms := ⟨_, rfl⟩
      simp only [List.map_cons, List.isEmpty_cons, hms] at hne hlc2
      rw [hms]
      simp only [bothD] at hne hlc2
      simp [hr, hlc, ownM_l, hlc2, hne, bothD, hcc]
theorem lb_loop (w : Ws) (rs0 : List Row) (S : Sto) : ∀ (n : Nat) (s : Nat) (rest : List Row) (acc : List (List Row)) (x2 x5 x6 x7 : Slot), goodRows rest → whole rest = true → acc.length + n ≤ 100 →
    ∃ y2 y4 y5, Sm.forM (.one 2) lp__law_blocks_0 (rng (s : Int) n) (lbE w rs0 x2 (.own (acc.map rowsD)) (.val (rowsD rest)) x5 x6 x7) S = .ok (.nx (lbE w rs0 y2 (.own ((acc ++ blk w n rest).map rowsD)) y4 y5 x6 x7)) S
  | 0, s, rest, acc, x2, x5, x6, x7, _, _, _ => ⟨x2, .val (rowsD rest), x5, by simp [rng, blk]⟩
  | n + 1, s, rest, acc, x2, x5, x6, x7, hG, hw, hc => by
    obtain ⟨z5, hs⟩ := lb_step w rs0 rest hG hw acc (by omega) (.val (.int (s : Int))) x5 x6 x7 S
    have hG' : goodRows (if rest = [] then [] else HB rest (gStar w rest)) ∧ whole (if rest = [] then [] else HB rest (gStar w rest)) = true := by
      by_cases he : rest = []
      · rw [if_pos he]
        exact ⟨⟨by simp, fun r h => by cases h⟩, rfl⟩
      · rw [if_neg he]
        obtain ⟨a, b, _⟩ := HB_next (w := w) hG hw he
        exact ⟨a, b⟩
    obtain ⟨y2, y4, y5, ih⟩ := lb_loop w rs0 S n (s + 1) (if rest = [] then [] else HB rest (gStar w rest)) (if rest = [] then acc else acc ++ [HA rest (gStar w rest)]) (.val (.int (s : Int))) z5 x6 x7 hG'.1 hG'.2 (by split <;> (try simp) <;> omega)
    refine ⟨y2, y4, y5, ?_⟩
    rw [rng_cons, e_forC]
    have eb : bindD (.one 2) (.int (s : Int)) (lbE w rs0 x2 (.own (acc.map rowsD)) (.val (rowsD rest)) x5 x6 x7) = some (lbE w rs0 (.val (.int (s : Int))) (.own (acc.map rowsD)) (.val (rowsD rest)) x5 x6 x7) := rfl
    rw [eb]
    dsimp only
    rw [hs]
    dsimp only
    rw [show (s : Int) + 1 = ((s + 1 : Nat) : Int) by omega, ih]
    by_cases he : rest = []
    · have hb : ∀ k, blk w k [] = [] := fun k => by cases k <;> simp [blk]
      simp [he, hb]
    · have hb : blk w (n + 1) rest = HA rest (gStar w rest) :: blk w n (HB rest (gStar w rest)) := by
        conv => lhs; unfold blk
        exact if_neg he
      simp [he, hb]
theorem law_blocks (w : Ws) (rs : List Row) (hG : goodRows rs) (hw : whole rs = true) (S : Sto) : m__law_blocks [w.d, rowsD rs] S = .ok (.lst ((blk w 8 rs).map rowsD)) S := by
  have hl := hG.1
  obtain ⟨y2, y4, y5, h⟩ := lb_loop w rs S rs.length 0 rs [] .no .no .no .no hG hw (by simp; omega)
  rw [blk_stable w rs.length 8 rs hG hw (Nat.le_refl _) (by omega)] at h
  have hr : ∀ ρ : Sm.Env, ρ[1]? = some (.val (rowsD rs)) → range1M (consM (c1 lenD (consM (vb ρ 1) (rt []))) (rt [])) S = .ok (rng 0 rs.length) S := fun ρ h => e_range1 (n := rs.length) (by simp [h, rowsD]) (by omega)
  simp only [List.map_nil, List.nil_append, Int.natCast_zero, lbE] at h
  unfold m__law_blocks
  rw [n__law_blocks]
  simp [hr, h, frzS, frzE]
end Pu

/-! text: Q34 -/
set_option Elab.async false
set_option linter.all false
set_option maxRecDepth 100000
set_option maxHeartbeats 4000000
namespace Sm
open PySem PySem.Spec L2
theorem cut_scr2 (ds : List D) (k : Nat) (S : Sto) : sliceL (.scr ds) none (some (k : Int)) S = .ok (ds.take k) S := by
  have h := cut_to ds k S
  have : cutL ds none (some (k : Int)) = ds.take k := by
    have h' : Res.ok (cutL ds none (some (k : Int))) S = Res.ok (ds.take k) S := h
    injection h'
  show Res.ok (cutL ds none (some (k : Int))) S = _
  rw [this]
theorem e_inKDM2 (vs : List (Str × D)) (m : M D) (S : Sto) : inKDM vs m S = match m S with
  | .ok (.str z) S' => (match lkS vs z with
    | some _ => .ok (.bl true) S'
    | none => .stuck)
  | .ok _ _ => .stuck
  | .err k fs S' => .err k fs S'
  | .stuck => .stuck := by
  unfold inKDM bd
  cases m S with
  | ok d S' => cases d <;> rfl
  | err k fs S' => rfl
  | stuck => rfl
theorem e_opt2 {α : Type} (a : α) (S : Sto) : (opt (some a) : M α) S = .ok a S := rfl
end Sm
namespace Pu
open PySem PySem.Spec L2 Sm Wk
theorem is_word (s : Str) (h : okW s) (S : Sto) : m_is_word [.str s] S = .ok (.bl true) S := by
  unfold m_is_word b_is_word
  rcases h with rfl | rfl | rfl <;> simp [lkS, e_inKDM2]
theorem way_init (w : Ws) (h : w.ok) (S : Sto) : m_Way_init [.str w.n, .str w.a, .str w.b, .str w.e] S = .ok (.ins 1 [w.d]) S := by
  obtain ⟨h1, h2, h3, h4⟩ := h
  have hlc := (lc_true (bnd := fun d => bindD (.one 5) d (wipeE [.ownI 1 [none], .val (.str w.n), .val (.str w.a), .val (.str w.b), .val (.str w.e), .no] [5])) (e := ce_Way_init_0) [.str w.n, .str w.a, .str w.b, .str w.e] S fun d hd => by
    have : ∃ s, d = .str s ∧ okW s := by
      simp at hd
      rcases hd with rfl | rfl | rfl | rfl
      · exact ⟨_, rfl, h1⟩
      · exact ⟨_, rfl, h2⟩
      · exact ⟨_, rfl, h3⟩
      · exact ⟨_, rfl, h4⟩
    obtain ⟨s, rfl, hs⟩ := this
    exact ⟨_, rfl, by unfold ce_Way_init_0; simp [wipeE, is_word s hs]⟩).2
  have hal := allB 4
  simp only [List.length_cons, List.length_nil, List.replicate] at hlc
  simp only [List.replicate] at hal
  unfold m_Way_init initM
  rw [n_Way_init]
  unfold Ws.d
  simp [hlc, hal, iniM, iniE, selfM, allS]
theorem law_way (w : Ws) (h : w.ok) (S : Sto) : m__law_way [w.d] S = .ok (wayD w) S := by
  have hi := way_init w h
  unfold m__law_way b__law_way wayD
  simp only [Ws.d] at hi ⊢
  simp [hi, e_opt2]
def lawE (x0 x2 x3 x4 x5 x6 x7 x8 x9 : Slot) : Sm.Env := [x0, .val (.ref 0), x2, x3, x4, x5, x6, x7, x8, x9]
theorem nats_clean (xs : List Nat) : clean 1 (natsD xs) = true := by
  simp only [natsD, clean, List.all_map, List.all_eq_true]
  intro i _
  rfl
theorem due_f (w : Ws) (rs : List Row) (hG : goodRows rs) (g : Nat) (hg : g ≤ rs.length) (S : Sto) : isN true (halvesD w rs g) S = some (.bl (barsL w rs g).isEmpty) := by
  by_cases hb : barsL w rs g = []
  · have : halvesD w rs g = .tup [rowsD (HA rs g), rowsD (HB rs g)] := if_pos hb
    rw [this, hb]
    rfl
  · have : halvesD w rs g = .non := if_neg hb
    rw [this]
    cases e : barsL w rs g with
    | nil => exact absurd e hb
    | cons x xs => rfl
theorem gaps_ok (w : Ws) (rs : List Row) (hG : goodRows rs) (x0 x2 x3 x4 x9 : Slot) (S : Sto) : ∀ (c s : Nat) (x6 : Slot), s + c ≤ rs.length + 1 → ∃ y6, Sm.forM (.one 6) lp_law_0 (rng (s : Int) c) (lawE x0 x2 x3 x4 (.val w.d) x6 (.val (rowsD rs)) (.val (wayD w)) x9) S = .ok (.nx (lawE x0 x2 x3 x4 (.val w.d) y6 (.val (rowsD rs)) (.val (wayD w)) x9)) S
  | 0, s, x6, _ => ⟨x6, by simp [rng]⟩
  | c + 1, s, x6, h => by
    obtain ⟨y6, ih⟩ := gaps_ok w rs hG x0 x2 x3 x4 x9 S c (s + 1) (.val (.int (s : Int))) (by omega)
    have hgr := gap_right w rs hG s (by omega)
    refine ⟨y6, ?_⟩
    rw [rng_cons, e_forC]
    have eb : bindD (.one 6) (.int (s : Int)) (lawE x0 x2 x3 x4 (.val w.d) x6 (.val (rowsD rs)) (.val (wayD w)) x9) = some (lawE x0 x2 x3 x4 (.val w.d) (.val (.int (s : Int))) (.val (rowsD rs)) (.val (wayD w)) x9) := rfl
    rw [eb]
    dsimp only
    have key : lp_law_0 (lawE x0 x2 x3 x4 (.val w.d) (.val (.int (s : Int))) (.val (rowsD rs)) (.val (wayD w)) x9) S = .ok (.nx (lawE x0 x2 x3 x4 (.val w.d) (.val (.int (s : Int))) (.val (rowsD rs)) (.val (wayD w)) x9)) S := by
      unfold lp_law_0 lawE
      simp [hgr]
    rw [key]
    dsimp only
    rw [show (s : Int) + 1 = ((s + 1 : Nat) : Int) by omega]
    exact ih
theorem turn_ok (x0 x2 x3 x4 x5 x6 x7 x8 x9 : Slot) (S : Sto) (hd : Draw 0 S) : ∃ (w : Ws) (y4 y6 y7 : Slot) (S' : Sto), lp_law_1 (lawE x0 x2 x3 x4 x5 x6 x7 x8 x9) S = .ok (.nx (lawE x0 x2 x3 y4 (.val w.d) y6 y7 (.val (wayD w)) x9)) S' ∧ w.ok ∧ Draw 0 S' := by
  obtain ⟨w, S1, h1, hw, d1, l1⟩ := words 0 S hd
  obtain ⟨rs, S2, h2, hG, hwh, d2, l2⟩ := law_list 0 w S1 d1
  have hl := hG.1
  have hwy := law_way w hw
  have i0 := steps_init rs hG.2 hl
  have hsm := seams w rs (by omega) (pts2 hG)
  have hbl := blocks w rs hG hwh
  have hlb := law_blocks w rs hG hwh
  have hr : ∀ ρ : Sm.Env, ρ[7]? = some (.val (rowsD rs)) → range1M (consM (o2 addA (c1 lenD (consM (vb ρ 7) (rt []))) (rt (.int 1))) (rt [])) S2 = .ok (rng 0 (rs.length + 1)) S2 := fun ρ h => e_range1 (n := rs.length + 1) (by simp [h, rowsD]) (by omega)
  have hdue := lc_mapF (S := S2) (bnd := fun d => bindD (.one 6) d (wipeE (lawE x0 x2 x3 x4 (.val w.d) x6 (.val (rowsD rs)) (.val (wayD w)) x9) [6])) (t := ct_law_1) (e := ce_law_2) (f := fun i : Nat => D.int (i : Int)) (g := fun i : Nat => D.int (i : Int)) (p := fun g => (barsL w rs g).isEmpty) (List.range' 0 (rs.length + 1)) fun g hg => by
    have hgl : g ≤ rs.length := by rw [List.mem_range'_1] at hg; omega
    have hlh := law_halves w rs hG g hgl
    have hdf := due_f w rs hG g hgl
    refine ⟨_, rfl, ?_, fun _ => ?_⟩
    · unfold ct_law_1 lawE
      simp [wipeE, hlh, hdf]
    · unfold ce_law_2 lawE
      simp [wipeE]
  rw [← rng_part] at hdue
  have hsl : (List.range' 0 (rs.length + 1)).filter (fun g => (barsL w rs g).isEmpty) = seamsL w rs := rfl
  rw [hsl] at hdue
  have hself := fun S => (eq_self (by decide : 1 ≤ 60) (nats_clean (seamsL w rs)) S).2
  have hcl : clean 5 (.lst ((blk w 8 rs).map rowsD)) = true := by
    simp only [clean, List.all_map, List.all_eq_true]
    intro x _
    exact rows_clean x
  have hself2 := fun S => (eq_self (by decide : 5 ≤ 60) hcl S).2
  have hbr := lc_map (S := S2) (bnd := fun d => bindD (.one 9) d (wipeE (lawE x0 x2 x3 (.own ((seamsL w rs).map fun i : Nat => D.int (i : Int))) (.val w.d) x6 (.val (rowsD rs)) (.val (wayD w)) x9) [9])) (e := ce_law_1) (f := stepsD) (g := rowsD) (blk w 8 rs) fun b _ => by
    refine ⟨_, rfl, ?_⟩
    unfold ce_law_1 lawE stepsD
    simp [wipeE, steps_rows]
  obtain ⟨y6, hgap⟩ := gaps_ok w rs hG x0 x2 x3 (.own ((seamsL w rs).map fun i : Nat => D.int (i : Int))) x9 S2 (rs.length + 1) 0 x6 (by omega)
  refine ⟨w, .own ((seamsL w rs).map fun i : Nat => D.int (i : Int)), y6, .val (rowsD rs), S2, ?_, hw, d2⟩
  unfold lp_law_1
  simp only [Int.natCast_zero] at hgap
  simp only [lawE, wayD, stepsD, natsD] at hdue hbr hgap hsm hbl hself hwy
  simp only [lawE, wayD]
  simp [h1, h2, hwy, hr, hdue, i0, hsm, hself, hbl, hbr, hlb, hself2, hgap]
theorem law_ok (ns : List Int) (hn : ns.length ≤ 63) : ∃ S', m_law [.scr (ns.map D.int)] [] = .ok (.bl true) S' := by
  have hc : sliceL (.scr (ns.map D.int)) none (some 63) ([] : Sto) = .ok (ns.map D.int) [] := by
    have := cut_scr2 (ns.map D.int) 63 []
    rw [List.take_of_length_le (by simp; omega)] at this
    exact this
  have hd : Draw 0 [.lst [.lst (ns.map D.int), .int 0, .int 0]] := ⟨ns, 0, 0, rfl, by omega, by omega⟩
  have hr : ∀ S : Sto, range1M (consM (rt (.int 2)) (rt [])) S = .ok (rng 0 2) S := fun S => e_range1 (n := 2) rfl (by omega)
  obtain ⟨ρ', S1, h1, x2, x3, x4, x5, x6, x7, x8, x9, e1, hk, d1⟩ := for_inv (t := .one 2) (b := lp_law_1) (I := fun k ρ S' => ∃ x2 x3 x4 x5 x6 x7 x8 x9, ρ = lawE (.val (.scr (ns.map D.int))) x2 x3 x4 x5 x6 x7 x8 x9 ∧ (k = 0 ∨ ∃ w : Ws, w.ok ∧ x5 = .val w.d ∧ x8 = .val (wayD w)) ∧ Draw 0 S')
      (rng 0 2) 0 (lawE (.val (.scr (ns.map D.int))) .no .no .no .no .no .no .no .no) [.lst [.lst (ns.map D.int), .int 0, .int 0]] ⟨_, _, _, _, _, _, _, _, rfl, .inl rfl, hd⟩ fun i d ρ S4 _ ⟨x2, x3, x4, x5, x6, x7, x8, x9, e, _, hd4⟩ => by
        rw [e]
        obtain ⟨w, y4, y6, y7, S5, q1, q2, q3⟩ := turn_ok (.val (.scr (ns.map D.int))) (.val d) x3 x4 x5 x6 x7 x8 x9 S4 hd4
        exact ⟨_, _, S5, rfl, .inl q1, _, _, _, _, _, _, _, _, rfl, .inr ⟨w, q2, rfl, rfl⟩, q3⟩
  rw [rng_len] at hk
  obtain ⟨w, hw, rfl, rfl⟩ : ∃ w : Ws, w.ok ∧ x5 = .val w.d ∧ x8 = .val (wayD w) := by
    rcases hk with h | h
    · omega
    · exact h
  rw [e1] at h1
  obtain ⟨od, S2, h2, o1, o4, ook, d2, l2⟩ := rows 0 4 (by decide) (by decide) S1 d1
  have h2' : m__law_rows [.ref 0, .int 4] S1 = .ok (rowsD od) S2 := h2
  have hG : goodRows od := ⟨by omega, ook⟩
  have hE : goodRows [] := ⟨by simp, fun r h => by cases h⟩
  have i0 := steps_init od hG.2 hG.1
  have iE := steps_init [] hE.2 hE.1
  have hsm := seams w od (by omega) (pts2 hG)
  have hsE := seams w [] (by simp) (pts2 hE)
  have hbE := blocks w [] hE rfl
  have hr2 : ∀ ρ : Sm.Env, ρ[3]? = some (.val (rowsD od)) → range1M (consM (o2 addA (c1 lenD (consM (vb ρ 3) (rt []))) (rt (.int 1))) (rt [])) S2 = .ok (rng 0 (od.length + 1)) S2 := fun ρ h => e_range1 (n := od.length + 1) (by simp [h, rowsD]) (by omega)
  have hdue := lc_mapF (S := S2) (bnd := fun d => bindD (.one 6) d (wipeE (lawE (.val (.scr (ns.map D.int))) x2 (.val (rowsD od)) x4 (.val w.d) x6 x7 (.val (wayD w)) x9) [6])) (t := ct_law_0) (e := ce_law_0) (f := fun i : Nat => D.int (i : Int)) (g := fun i : Nat => D.int (i : Int)) (p := fun g => (barsL w od g).isEmpty) (List.range' 0 (od.length + 1)) fun g hg => by
    have hgl : g ≤ od.length := by rw [List.mem_range'_1] at hg; omega
    have hlh := law_halves w od hG g hgl
    have hdf := due_f w od hG g hgl
    refine ⟨_, rfl, ?_, fun _ => ?_⟩
    · unfold ct_law_0 lawE
      simp [wipeE, hlh, hdf]
    · unfold ce_law_0 lawE
      simp [wipeE]
  rw [← rng_part] at hdue
  have hsl : (List.range' 0 (od.length + 1)).filter (fun g => (barsL w od g).isEmpty) = seamsL w od := rfl
  rw [hsl] at hdue
  have hself := fun S => (eq_self (by decide : 1 ≤ 60) (nats_clean (seamsL w od)) S).1
  have hs0 : seamsL w [] = [0] := rfl
  have hself0 := fun S => (eq_self (by decide : 1 ≤ 60) (nats_clean [0]) S).1
  have hselfN := fun S => (eq_self (by decide : 1 ≤ 60) (nats_clean []) S).1
  have hb0 : blk w 8 [] = [] := rfl
  rw [hs0] at hsE
  rw [hb0] at hbE
  have hre : rowsD ([] : List Row) = .tup [] := rfl
  refine ⟨S2, ?_⟩
  unfold m_law
  rw [n_law]
  simp only [lawE, wayD, stepsD, natsD, hre, List.map_cons, List.map_nil] at h1 hdue hsm hsE hbE hself hself0 hselfN iE
  have h63 : ((0 : Nat) : Int) = 0 := rfl
  rw [h63] at hsE hself0
  simp [hc, hr, h1, bd, h2', hr2, hdue, i0, hsm, hself, iE, hsE, hself0, hbE, hselfN]
end Pu

/-! text: Sim19 -/
set_option Elab.async false
set_option linter.all false
set_option maxRecDepth 100000
set_option maxHeartbeats 1000000
namespace Sm
open PySem PySem.Spec PyProof.Rows L2
/-! ### what the head looks at -/
inductive At where
  | glo (x : Str)
  | meth (C m : Str)
  | prop (C m : Str)
def pAd (K : PySem.W.Frag) (C m : Str) : Addr := match PySem.W.findIn K (.ref (He.ga K C)) m with
  | some (some (.ref p)) => p
  | _ => 0
def gAd (K : PySem.W.Frag) (C m : Str) : Addr := match PySem.W.recIn K (pAd K C m) "property" with
  | some (.ref g :: _) => g
  | _ => 0
def At.ad (K : PySem.W.Frag) : At → Addr
  | .glo x => He.ga K x
  | .meth C m => He.ma K (He.ga K C) m
  | .prop C m => gAd K C m
def fnA (K : PySem.W.Frag) (a : Addr) : He.FnW := match K.lookup a with
  | some ⟨_, _, .func fd, _⟩ => some (fd.name, fd.qualname, fd.params, fd.body, fd.scope, fd.globals, fd.closure, fd.builtins)
  | _ => none
structure DS where
  at_ : At
  name : Str
  qual : Str
  st : Stmt
  kwd : List (Str × He.Dv) := []
def DS.val (d : DS) : He.FnW := some (d.name, d.qual, defArgs d.st, .stmts (defBody d.st), defScope d.st, mainGlobals, [], builtinsNs)
def DS.kws (K : PySem.W.Frag) (d : DS) : List (Str × V) := d.kwd.map fun q => (q.1, q.2.v K)
def DS.ok (K : PySem.W.Frag) (d : DS) : Bool := PySem.W.keepIn K (.ref (d.at_.ad K)) && (match K.lookup (d.at_.ad K) with
  | some ⟨_, _, .func fd, _⟩ => PySem.W.codeIn K fd.code d.qual && (He.dflB K fd.defaults [] && He.kwdB K fd.kwdefaults (d.kws K))
  | _ => false)
theorem DS.funD {K : PySem.W.Frag} {d : DS} (e : fnA K (d.at_.ad K) = d.val) (c : d.ok K = true) : ∃ fd, FunD K d.name d.qual (defArgs d.st) (defBody d.st) (defScope d.st) [] (d.kws K) (d.at_.ad K) fd := by
  obtain ⟨kp, c2⟩ := He.ba c
  unfold fnA at e
  cases q : K.lookup (d.at_.ad K) with
  | none =>
    rw [q] at c2
    cases c2
  | some o =>
    obtain ⟨oc, od, dt, osl⟩ := o
    rw [q] at c2 e
    cases dt with
    | func fd =>
      obtain ⟨n1, n2, n3, n4, n5, n6, n7, n8, n9, n10, n11, n12, n13, n14, n15⟩ := fd
      have e2 : (some (n1, n2, n3, n4, n5, n6, n7, n15) : He.FnW) = some (d.name, d.qual, defArgs d.st, .stmts (defBody d.st), defScope d.st, mainGlobals, [], builtinsNs) := e
      simp only [Option.some.injEq, Prod.mk.injEq] at e2
      obtain ⟨h1, h2, h3, h4, h5, h6, h7, h8⟩ := e2
      subst h1 h2 h3 h4 h5 h6 h7 h8
      have c3 : (PySem.W.codeIn K n13 d.qual && (He.dflB K n8 [] && He.kwdB K n9 (d.kws K))) = true := c2
      obtain ⟨k1, k2⟩ := He.ba c3
      obtain ⟨k3, k4⟩ := He.ba k2
      exact ⟨_, ⟨oc, od, n8, n9, n10, n11, n12, n13, n14, osl, rfl, q, k1, He.dflB_ok k3, He.kwdB_ok k4⟩, kp⟩
    | _ => cases c2
/-! facts by name -/
inductive Fx where
  | free (x : Str)
  | glo (x : Str)
  | int (x : Str) (i : Int)
  | strs (x : Str) (ys : List Str)
  | cls (x : Str)
  | slot (C f : Str) (i : Nat)
  | prop (C f : Str)
  | meth (C m : Str)
  | mk (C : Str)
def eqS (a b : Option (Option Value)) : Bool := decide (a = b)
def relS : List Str → List Value → Bool
  | [], [] => true
  | y :: ys, .str z _ :: vs => decide (y = z) && relS ys vs
  | _, _ => false
theorem relS_ok : ∀ {ys : List Str} {vs : List Value}, relS ys vs = true → Vals (ys.map V.str) vs
  | [], [], _ => .nil
  | [], _ :: _, h => by cases h
  | y :: ys, [], h => by cases h
  | y :: ys, v :: vs, h => by
    cases v with
    | str z t =>
      obtain ⟨h1, h2⟩ := He.ba (show (decide (y = z) && relS ys vs) = true from h)
      have e := of_decide_eq_true h1
      subst e
      exact .cons ⟨t, rfl⟩ (relS_ok h2)
    | _ => cases h
def Fx.ok (K : PySem.W.Frag) : Fx → Bool
  | .free x => eqS (PySem.W.nsIn K mainGlobals x) (some none)
  | .glo x => eqS (PySem.W.nsIn K mainGlobals x) (some (some (.ref (He.ga K x))))
  | .int x i => (match PySem.W.nsIn K mainGlobals x with
    | some (some (.int j _)) => decide (j = i)
    | _ => false)
  | .strs x ys => eqS (PySem.W.nsIn K mainGlobals x) (some (some (.ref (He.ga K x)))) && (match K.lookup (He.ga K x) with
    | some ⟨.type c, none, .seq its _, _⟩ => decide (c = "tuple") && (decide (its.size ≤ sizeLine) && relS ys its.toList)
    | _ => false)
  | .cls x => eqS (PySem.W.nsIn K mainGlobals x) (some (some (.ref (He.ga K x)))) && (PySem.W.plainGet K (He.ga K x) Str.empty && (PySem.W.isClsIn K (He.ga K x) && (PySem.W.plainOver K (He.ga K x) && (eqS (PySem.W.findIn K (.ref (He.ga K x)) "__setattr__") (some (some (.builtin "object.__setattr__"))) &&
      (eqS (PySem.W.findIn K (.ref (He.ga K x)) "__class__") (some (some (.builtin "object.__class__"))) && (eqS (PySem.W.specialIn K (.builtin "object.__class__") "__get__") (some (some (.builtin "getset_descriptor.__get__"))) &&
      (decide (PySem.W.takesIn K (.builtin "object.__class__") = some true) && decide (PySem.W.mroIn K (He.ga K x) (.type "object") = some true))))))))
  | .slot C f i => eqS (PySem.W.findIn K (.ref (He.ga K C)) f) (some (some (.ref (pAd K C f)))) && (eqS (PySem.W.specialIn K (.ref (pAd K C f)) "__get__") (some (some (.builtin "member_descriptor.__get__"))) &&
      (decide (PySem.W.takesIn K (.ref (pAd K C f)) = some true) && (decide (PySem.W.typeIn K (.ref (pAd K C f)) = some (.type "member_descriptor")) && (decide (PySem.W.slotIn K (pAd K C f) (He.ga K C) = some i) && decide (i < 1000)))))
  | .prop C f => eqS (PySem.W.findIn K (.ref (He.ga K C)) f) (some (some (.ref (pAd K C f)))) && (eqS (PySem.W.specialIn K (.ref (pAd K C f)) "__get__") (some (some (.builtin "property.__get__"))) &&
      (decide (PySem.W.takesIn K (.ref (pAd K C f)) = some true) && (match PySem.W.recIn K (pAd K C f) "property" with
        | some (.ref g :: _) => decide (g = gAd K C f)
        | _ => false)))
  | .meth C m => eqS (PySem.W.findIn K (.ref (He.ga K C)) m) (some (some (.ref (He.ma K (He.ga K C) m)))) && (PySem.W.isFn K (.ref (He.ma K (He.ga K C) m)) && PySem.W.keepIn K (.ref (He.ma K (He.ga K C) m)))
  | .mk C => PySem.W.makesIn K (He.ga K C) && (eqS (PySem.W.findIn K (.ref (He.ga K C)) "__init__") (some (some (.ref (He.ma K (He.ga K C) "__init__")))) && (PySem.W.isFn K (.ref (He.ma K (He.ga K C) "__init__")) && PySem.W.keepIn K (.ref (He.ga K C))))
section
variable {K : PySem.W.Frag} {h : Heap} {mg : Str → Option Value}
theorem eqS_ok {a b : Option (Option Value)} (h : eqS a b = true) : a = b := of_decide_eq_true h
theorem fx_free (X : K.In h) (G : h.Ns mainGlobals mg) {x : Str} (c : (Fx.free x).ok K = true) : mg x = none := PySem.W.mg_none_of X G (eqS_ok c)
theorem fx_glo (X : K.In h) (G : h.Ns mainGlobals mg) {x : Str} (c : (Fx.glo x).ok K = true) : mg x = some (.ref (He.ga K x)) := PySem.W.mg_of X G (eqS_ok c)
theorem fx_int (X : K.In h) (G : h.Ns mainGlobals mg) {x : Str} {i : Int} (c : (Fx.int x i).ok K = true) : ∃ u, mg x = some u ∧ RelV (.int i) u := by
  obtain ⟨t, e⟩ := He.int_ok X G (i := i) (x := x) c
  exact ⟨_, e, t, rfl⟩
theorem fx_strs (X : K.In h) (G : h.Ns mainGlobals mg) {x : Str} {ys : List Str} (c : (Fx.strs x ys).ok K = true) : ∃ ad, mg x = some (.ref ad) ∧ KTs K ad ys := by
  obtain ⟨c1, c2⟩ := He.ba c
  refine ⟨_, PySem.W.mg_of X G (eqS_ok c1), ?_⟩
  cases q : K.lookup (He.ga K x) with
  | none => rw [q] at c2; cases c2
  | some o =>
    obtain ⟨oc, od, dt, osl⟩ := o
    rw [q] at c2
    cases oc with
    | type cn =>
      cases od with
      | none =>
        cases dt with
        | seq its n =>
          obtain ⟨h1, h2⟩ := He.ba (show (decide (cn = "tuple") && (decide (its.size ≤ sizeLine) && relS ys its.toList)) = true from c2)
          obtain ⟨h3, h4⟩ := He.ba h2
          exact ⟨⟨_, its, n, q, congrArg Value.type (of_decide_eq_true h1), rfl, rfl, of_decide_eq_true h3, relS_ok h4⟩⟩
        | _ => cases c2
      | some d => cases dt <;> cases c2
    | _ => cases od <;> cases dt <;> cases c2
theorem fx_cls (X : K.In h) (G : h.Ns mainGlobals mg) {x : Str} (c : (Fx.cls x).ok K = true) : mg x = some (.ref (He.ga K x)) ∧ SlX.SCls K (He.ga K x) ∧ SlX.SIsi K (He.ga K x) := by
  obtain ⟨c0, c⟩ := He.ba c
  obtain ⟨c1, c⟩ := He.ba c
  obtain ⟨c2, c⟩ := He.ba c
  obtain ⟨c3, c⟩ := He.ba c
  obtain ⟨c4, c⟩ := He.ba c
  obtain ⟨c5, c⟩ := He.ba c
  obtain ⟨c6, c⟩ := He.ba c
  obtain ⟨c7, c8⟩ := He.ba c
  exact ⟨PySem.W.mg_of X G (eqS_ok c0), ⟨c1, c2, c3, eqS_ok c4⟩, ⟨eqS_ok c5, eqS_ok c6, of_decide_eq_true c7, of_decide_eq_true c8⟩⟩
theorem fx_slot {C f : Str} {i : Nat} (c : (Fx.slot C f i).ok K = true) : ∃ ad, SlX.Slot1 K (He.ga K C) f ad i := by
  obtain ⟨c1, c⟩ := He.ba c
  obtain ⟨c2, c⟩ := He.ba c
  obtain ⟨c3, c⟩ := He.ba c
  obtain ⟨c4, c⟩ := He.ba c
  obtain ⟨c5, c6⟩ := He.ba c
  exact ⟨_, eqS_ok c1, eqS_ok c2, of_decide_eq_true c3, of_decide_eq_true c4, of_decide_eq_true c5, of_decide_eq_true c6⟩
theorem fx_prop {C f : Str} (c : (Fx.prop C f).ok K = true) : Prp K (He.ga K C) f (pAd K C f) (gAd K C f) := by
  obtain ⟨c1, c⟩ := He.ba c
  obtain ⟨c2, c⟩ := He.ba c
  obtain ⟨c3, c4⟩ := He.ba c
  refine ⟨eqS_ok c1, eqS_ok c2, of_decide_eq_true c3, ?_⟩
  cases q : PySem.W.recIn K (pAd K C f) "property" with
  | none => rw [q] at c4; cases c4
  | some l =>
    rw [q] at c4
    cases l with
    | nil => cases c4
    | cons v rest =>
      cases v with
      | ref g =>
        have e : g = gAd K C f := of_decide_eq_true c4
        exact ⟨rest, by rw [← e]⟩
      | _ => cases c4
theorem fx_meth {C m : Str} (c : (Fx.meth C m).ok K = true) : Meth K (He.ga K C) m (He.ma K (He.ga K C) m) := by
  obtain ⟨c1, c⟩ := He.ba c
  obtain ⟨c2, c3⟩ := He.ba c
  exact ⟨eqS_ok c1, c2, c3⟩
theorem fx_mk {C : Str} (c : (Fx.mk C).ok K = true) : Mk K (He.ga K C) (He.ma K (He.ga K C) "__init__") := by
  obtain ⟨c1, c⟩ := He.ba c
  obtain ⟨c2, c⟩ := He.ba c
  obtain ⟨c3, c4⟩ := He.ba c
  exact ⟨c1, eqS_ok c2, c3, c4⟩
end
/-! the classes among each other -/
def clsA (K : PySem.W.Frag) (cs : List Str) (k : Nat) : Addr := He.ga K (cs.getD k "")
def cfB (K : PySem.W.Frag) (cs : List Str) : Bool := ((List.range cs.length).all fun k => (Fx.cls (cs.getD k "")).ok K) && (((List.range cs.length).all fun k => (List.range cs.length).all fun j => decide (PySem.W.kitOne K (.ref (clsA K cs k)) (.ref (clsA K cs j)) = some (decide (k = j)))) &&
  ((List.range cs.length).all fun j => ["NoneType", "bool", "int", "str", "tuple", "list", "dict"].all fun a => decide (PySem.W.kitOne K (.type a) (.ref (clsA K cs j)) = some false)))
theorem cf_of {K : PySem.W.Frag} {h : Heap} {mg : Str → Option Value} (X : K.In h) (G : h.Ns mainGlobals mg) {cs : List Str} (b : cfB K cs = true) : CF ⟨K, clsA K cs⟩ cs.length := by
  obtain ⟨b1, b2⟩ := He.ba b
  obtain ⟨b3, b4⟩ := He.ba b2
  have g1 : ∀ k, k < cs.length → (Fx.cls (cs.getD k "")).ok K = true := fun k hk => List.all_eq_true.mp b1 k (List.mem_range.mpr hk)
  refine ⟨fun k hk => (fx_cls X G (g1 k hk)).2.1, fun k hk => (fx_cls X G (g1 k hk)).2.2, fun k j hk hj => ?_, fun j hj a ha => ?_⟩
  · exact of_decide_eq_true (List.all_eq_true.mp (List.all_eq_true.mp b3 k (List.mem_range.mpr hk)) j (List.mem_range.mpr hj))
  · exact of_decide_eq_true (List.all_eq_true.mp (List.all_eq_true.mp b4 j (List.mem_range.mpr hj)) a ha)
theorem cls_mg {K : PySem.W.Frag} {h : Heap} {mg : Str → Option Value} (X : K.In h) (G : h.Ns mainGlobals mg) {cs : List Str} (b : cfB K cs = true) {k : Nat} (hk : k < cs.length) : mg (cs.getD k "") = some (.ref (clsA K cs k)) := by
  obtain ⟨b1, _⟩ := He.ba b
  exact (fx_cls X G (List.all_eq_true.mp b1 k (List.mem_range.mpr hk))).1

/-! what the module's names reach, by a mask of what is known -/
def addAs {α : Type} : List Addr → Nat → List Addr → (Nat → List Addr → α) → α
  | [], m, acc, k => k m acc
  | a :: r, m, acc, k => match Nat.testBit m a with
    | true => addAs r m acc k
    | false => HandSHeadRun.frNat (Nat.lor m (Nat.shiftLeft 1 a)) fun m => addAs r m (a :: acc) k
def levAs {α : Type} (g : Addr → Option Obj) : List Addr → Nat → List Addr → (Nat → List Addr → α) → α
  | [], m, acc, k => k m acc
  | a :: r, m, acc, k => match g a with
    | some o => addAs (He.refsD o) m acc fun m acc => levAs g r m acc k
    | none => levAs g r m acc k
def runAs (g : Addr → Option Obj) : Nat → List Addr → Nat → List Addr → List Addr
  | 0, _, _, all => all
  | n + 1, fr, m, all => levAs g fr m [] fun m new => runAs g n new m (all ++ new)
def adsB (g : Addr → Option Obj) (n : Nat) : List Addr := runAs g n [mainGlobals] (Nat.shiftLeft 1 mainGlobals) [mainGlobals]
/-! the hook -/
abbrev Tb : Type := Str × List (Str × Int)
abbrev AlS : Type := (Bool × List He.FnW) × List (Option (List (Option (Str × Int))))
def tbB (K : PySem.W.Frag) (t : Tb) : Bool := eqS (PySem.W.nsIn K mainGlobals t.1) (some (some (.ref (He.ga K t.1)))) && He.valsB K (He.ga K t.1) (t.2.map fun q => (q.1, He.Dv.int q.2))
def obsS (fx : List Fx) (cs : List Str) (fn : List DS) (ts : List Tb) (K : PySem.W.Frag) : AlS := (((fx.all fun f => f.ok K) && (cfB K cs && ((fn.all fun d => d.ok K) && ts.all fun t => tbB K t)), fn.map fun d => fnA K (d.at_.ad K)), ts.map fun t => He.dicW K (He.ga K t.1))
def valS (fn : List DS) (ts : List Tb) (w : World) : AlS := ((true, fn.map DS.val), ts.map fun t => some (He.keysIn w.params (t.2.map (·.1))))
def hookS (n : Nat) (fx : List Fx) (cs : List Str) (fn : List DS) (ts : List Tb) : PySem.W.Hook where
  α := AlS
  obs := fun s => obsS fx cs fn ts (He.frT s.heap.get? (adsB s.heap.get? n))
  val := fun w => valS fn ts w
  says := fun w h => ∃ K : PySem.W.Frag, K.In h ∧ obsS fx cs fn ts K = valS fn ts w
  of := fun _ _ e => ⟨_, He.frT_in, e⟩
  keeps := fun _ _ _ ⟨K, hK, c⟩ k => ⟨K, PySem.W.Frag.In.keeps hK k, c⟩
def obS (n : Nat) (fx : List Fx) (cs : List Str) (fn : List DS) (ts : List Tb) (g : Addr → Option Obj) : AlS := obsS fx cs fn ts (He.frT g (adsB g n))
theorem obS_eq {n : Nat} {fx : List Fx} {cs : List Str} {fn : List DS} {ts : List Tb} {g : Addr → Option Obj} {s : Shared} (h : ∀ a, g a = s.heap.get? a) : obS n fx cs fn ts g = (hookS n fx cs fn ts).obs s := by
  have e : g = s.heap.get? := funext h
  rw [e] <;> rfl
section
variable {fx : List Fx} {cs : List Str} {fn : List DS} {ts : List Tb} {K : PySem.W.Frag} {w : World}
theorem says_b (e : obsS fx cs fn ts K = valS fn ts w) : (fx.all fun f => f.ok K) = true ∧ cfB K cs = true ∧ (fn.all fun d => d.ok K) = true ∧ (ts.all fun t => tbB K t) = true := by
  have e1 : ((fx.all fun f => f.ok K) && (cfB K cs && ((fn.all fun d => d.ok K) && ts.all fun t => tbB K t))) = true := congrArg (fun z : AlS => z.1.1) e
  obtain ⟨h1, h2⟩ := He.ba e1
  obtain ⟨h3, h4⟩ := He.ba h2
  obtain ⟨h5, h6⟩ := He.ba h4
  exact ⟨h1, h3, h5, h6⟩
theorem says_fx (e : obsS fx cs fn ts K = valS fn ts w) (i : Nat) {f : Fx} (h : fx[i]? = some f := by rfl) : f.ok K = true := List.all_eq_true.mp (says_b e).1 f (List.mem_of_getElem? h)
theorem says_fn (e : obsS fx cs fn ts K = valS fn ts w) (i : Nat) {d : DS} (h : fn[i]? = some d := by rfl) : ∃ fd, FunD K d.name d.qual (defArgs d.st) (defBody d.st) (defScope d.st) [] (d.kws K) (d.at_.ad K) fd := by
  have e1 : fn.map (fun d => fnA K (d.at_.ad K)) = fn.map DS.val := congrArg (fun z : AlS => z.1.2) e
  have e2 : (fn.map fun d => fnA K (d.at_.ad K))[i]? = (fn.map DS.val)[i]? := by rw [e1]
  rw [List.getElem?_map, List.getElem?_map, h] at e2
  exact DS.funD (Option.some.inj e2) (List.all_eq_true.mp (says_b e).2.2.1 d (List.mem_of_getElem? h))
theorem says_tb {cls : Nat → Addr} {h : Heap} {mg : Str → Option Value} (X : K.In h) (G : h.Ns mainGlobals mg) (e : obsS fx cs fn ts K = valS fn ts w) (i : Nat) {t : Tb} (hi : ts[i]? = some t := by rfl) :
    ∃ ad, mg t.1 = some (.ref ad) ∧ KDt ⟨K, cls⟩ w ad (t.2.map fun q => (q.1, D.int q.2)) := by
  have e1 : ts.map (fun t => He.dicW K (He.ga K t.1)) = ts.map fun t => some (He.keysIn w.params (t.2.map (·.1))) := congrArg (fun z : AlS => z.2) e
  have e2 : (ts.map fun t => He.dicW K (He.ga K t.1))[i]? = (ts.map fun t => some (He.keysIn w.params (t.2.map (·.1))))[i]? := by rw [e1]
  rw [List.getElem?_map, List.getElem?_map, hi] at e2
  obtain ⟨b1, b2⟩ := He.ba (show (eqS _ _ && He.valsB K (He.ga K t.1) _) = true from List.all_eq_true.mp (says_b e).2.2.2 t (List.mem_of_getElem? hi))
  refine ⟨_, PySem.W.mg_of X G (eqS_ok b1), He.dicW_ok (Option.some.inj e2), fun q hq => ?_⟩
  obtain ⟨q0, hq0, eq⟩ := List.mem_map.mp hq
  obtain ⟨u, h1, h2⟩ := He.valsB_ok b2 (q := (q0.1, He.Dv.int q0.2)) (List.mem_map.mpr ⟨q0, hq0, rfl⟩)
  subst eq
  exact ⟨u, _, h1, h2, fun Ψ => .int _⟩
end
end Sm

/-! text: Sim20 -/
set_option Elab.async false
set_option linter.all false
set_option maxRecDepth 100000
set_option maxHeartbeats 1000000
namespace Sm
open PySem PySem.Spec PyProof.Rows L2
theorem walk_ofS {l : PySem.W.OpenLaw} {n k : Nat} {q : Program} {loose : List Str} {XP : (Str → Option Value) → Heap → Prop} {YP : World → Heap → Prop} {d : DefRec} {CX : World → CXT} {x : Str}
    (hn : l.most = some n) (hn2 : n ≤ sizeLine) (hdf : d.params.defaults = []) (hr : Room k callerA)
    (F : ∀ (w : World) (mg : Str → Option Value) (fa : Addr) (h : Heap), YP w h → h.Ns mainGlobals mg → mg d.name = some (.ref fa) →
      ∃ (K : PySem.W.Frag) (fd : FuncData) (sp : Sp), K.In h ∧ (∀ (s : Shared) (u : Value), BindsTo s fd ⟨[u], []⟩ [(x, u)]) ∧
        (∀ (H : Hp) (a : Addr) (ns : List Int), ns.length ≤ n → Only H → SqL K H a (ns.map V.int) → sp [.ref a] H (fun v _ => v = .bl true) fun _ _ _ => False) ∧
        ∀ base : Heap, K.In base → base.Ns mainGlobals mg → FnOk l.prog w K mg base (CX w) k fa fd [x] sp)
    (hCX : ∀ (w : World) (H : Hp) (s : Shared) (e : Value) (s' : Shared), CX w [] H s (fun _ _ _ => False) e s' → False) :
    PySem.W.WalkO q loose XP YP l.row.toRowW d [] (fun f vs => PySem.call f vs) := by
  refine Att.attach_call hn hdf fun w s₀ s₁ mg mb fa o pm cd doc a vs ns G Y ho hd hcd hmg hobj hints hlen hg => ?_
  obtain ⟨K, fd, sp, KX, hb, hsp, hF⟩ := F w mg fa _ Y G.T.g hmg
  exact law_call KX G.T.g G.T.b G.T.builtins G.T.nolimit hg hobj hints (Nat.le_trans hlen hn2) hr hF hb (fun H hO hS => hsp H a ns hlen hO hS) fun H e s' => hCX w H s₁ e s'
theorem cx_none {P : Program} {w : World} (H : Hp) (s : Shared) (e : Value) (s' : Shared) (h : L2.CX P w [] H s (fun _ _ _ => False) e s') : False := by
  obtain ⟨_, _, _, _, _, _, _, _, _, _, _, _, z⟩ := h
  exact z
/-- the law's promise at the script -/
theorem prom_law {c : Cf} {m : List D → M D} {H : Hp} {a : Addr} {ns : List Int} {E : XK} (hl : ns.length ≤ 63) (hS : SqL c.K H a (ns.map V.int)) (hp : ∃ S', m [.scr (ns.map D.int)] [] = .ok (.bl true) S') :
    PromF c 1 m [.ref a] H (fun v _ => v = .bl true) E := by
  obtain ⟨S', e⟩ := hp
  have r : Reps c ⟨H, []⟩ (ns.map V.int) (ns.map D.int) := by
    clear hl hS e
    induction ns with
    | nil => exact .nil
    | cons n ns ih => exact .cons (.int n) ih
  refine ⟨⟨H, []⟩, [], [.scr (ns.map D.int)], ⟨fun _ _ h => h, fun a ⟨n, p, h, _⟩ => by simp at h, fun i j p q h => by simp at h, rfl, fun n o h => by simp at h⟩, .cons (.scr hS (by rw [List.length_map]; show _ ≤ 100000; omega) r) .nil, rfl, ?_⟩
  rw [e]
  intro Ψ' v H' _ _ rv
  cases rv
  rfl
end Sm

/-! text: Sim21 -/
set_option Elab.async false
set_option linter.all false
set_option maxRecDepth 100000
set_option maxHeartbeats 1000000
namespace Sm
open PySem PySem.W PySem.Calls PyProof.Rows HandSHeadRun
/-! ### the head's looks in parts: each a run of its own, for the memory's sake -/
/-- the state behind the top -/
noncomputable abbrev endR (R : PySem.W.OpenRow) (M : Nat) (w : World) (os : OsState) : Option PySem.W.SharedT := endF (stepQ (denQ tabQ) R.prog w) M R.prog w os
def LookOk (R : PySem.W.OpenRow) (q : Program) (M : Nat) (loose : List Str) (w : World) : Prop := ∀ os : OsState, (endR R M w os).map (fun s => (looksF R.prog (boot_heap w.params) s.abs, HandSHeadRun.seenQ q loose (importedModules R.prog.main.body) (fun s => xlAt q [] s && recOk R.toRowW.records s) s.abs)) = some (true, openGood q loose)
def PartOk (R : PySem.W.OpenRow) (M : Nat) (fx : List Fx) (cs : List Str) (fn : List DS) (ts : List Tb) (w : World) : Prop := ∀ os : OsState, (endR R M w os).map (fun s => obS 6 fx cs fn ts (getT s)) = some (valS fn ts w)
theorem obsS_app {fx fx' : List Fx} {cs : List Str} {fn fn' : List DS} {ts ts' : List Tb} {K : PySem.W.Frag} {w : World} (h : obsS fx cs fn ts K = valS fn ts w) (h' : obsS fx' [] fn' ts' K = valS fn' ts' w) : obsS (fx ++ fx') cs (fn ++ fn') (ts ++ ts') K = valS (fn ++ fn') (ts ++ ts') w := by
  obtain ⟨a1, a2, a3, a4⟩ := says_b h
  obtain ⟨b1, b2, b3, b4⟩ := says_b h'
  have e1 : fn.map (fun d => fnA K (d.at_.ad K)) = fn.map DS.val := congrArg (fun z : AlS => z.1.2) h
  have e1' : fn'.map (fun d => fnA K (d.at_.ad K)) = fn'.map DS.val := congrArg (fun z : AlS => z.1.2) h'
  have e2 : ts.map (fun t => He.dicW K (He.ga K t.1)) = ts.map fun t => some (He.keysIn w.params (t.2.map (·.1))) := congrArg (fun z : AlS => z.2) h
  have e2' : ts'.map (fun t => He.dicW K (He.ga K t.1)) = ts'.map fun t => some (He.keysIn w.params (t.2.map (·.1))) := congrArg (fun z : AlS => z.2) h'
  unfold obsS valS
  rw [List.all_append, List.all_append, List.all_append, List.map_append, List.map_append, List.map_append, List.map_append, e1, e1', e2, e2', a1, a2, a3, a4, b1, b3, b4]
  rfl
theorem part_app {R : PySem.W.OpenRow} {M : Nat} {fx fx' : List Fx} {cs : List Str} {fn fn' : List DS} {ts ts' : List Tb} {w : World} (h : PartOk R M fx cs fn ts w) (h' : PartOk R M fx' [] fn' ts' w) : PartOk R M (fx ++ fx') cs (fn ++ fn') (ts ++ ts') w := fun os => by
  have z := h os
  have z' := h' os
  cases e : endR R M w os with
  | none => rw [e] at z; cases z
  | some s =>
    rw [e] at z z'
    have y : obS 6 fx cs fn ts (getT s) = valS fn ts w := Option.some.inj z
    have y' : obS 6 fx' [] fn' ts' (getT s) = valS fn' ts' w := Option.some.inj z'
    exact congrArg some (obsS_app y y')
theorem run_parts {R : PySem.W.OpenRow} {q : Program} {M : Nat} {loose : List Str} {fx : List Fx} {cs : List Str} {fn : List DS} {ts : List Tb} {w : World} (h : LookOk R q M loose w) (h' : PartOk R M fx cs fn ts w) :
    RunEq R q (hookS 6 fx cs fn ts) (fun s => obS 6 fx cs fn ts (getT s)) M loose w := fun os => by
  have z := h os
  have z' := h' os
  show (endR R M w os).map _ = _
  cases e : endR R M w os with
  | none => rw [e] at z; cases z
  | some s =>
    rw [e] at z z'
    have y := Option.some.inj z
    have y' : obS 6 fx cs fn ts (getT s) = valS fn ts w := Option.some.inj z'
    obtain ⟨y1, y2⟩ := Prod.mk.inj y
    exact congrArg some (Prod.ext y1 (Prod.ext y2 y'))
end Sm

/-! text: Hd -/
set_option Elab.async false
set_option linter.all false
set_option maxRecDepth 100000
set_option maxHeartbeats 0
namespace Hd
open PySem PySem.Spec PyProof.Rows L2 Sm Wk
def nm0 : List Str := ["_wall", "PointError", "BadSteps", "BadIndex", "BadSpot", "BadLabels", "BadWay", "BadEdit", "TooLarge", "BadGap", "MOST_STEPS", "MOST_POINTERS", "MOST_NUMBER", "LETTERS", "is_number", "is_label", "is_pointer", "is_step", "are_rows", "first_with", "meaning", "all_spots", "meant_at", "are_whole", "relabelled", "Steps", "check_steps", "RANKS", "KINDS", "is_edit"]
def nm1 : List Str := ["sources", "standing", "pointing", "kept", "edited", "label_of", "is_word", "Way", "way_of", "check_way", "check_gap", "check_whole_by", "does_bar", "bars_of", "pointer_in_half", "half_of", "halves_of", "Halves", "Barred", "blocks_of", "take_apart", "seams", "blocks", "_law_cell_at", "_law_draw", "_law_number", "_law_next", "_law_pick", "_law_meant", "_law_spots"]
def nm2 : List Str := ["_law_at", "_law_is_whole", "_law_pointer", "_law_rows", "_law_healed", "_law_sources", "_law_same_kind", "_law_edited", "_law_words", "_law_way", "_law_origins", "_law_halves", "_law_are_halves", "_law_does_bar", "_law_blocks", "_law_list", "_law_bent", "_law_gap_right"]
abbrev names : List Str := nm0 ++ nm1 ++ nm2
def fx0 : List Fx := [.strs "KINDS" ["number", "above", "below", "end"], .strs "LETTERS" ["a", "b", "c", "d"], .int "MOST_NUMBER" 9, .int "MOST_POINTERS" 2, .int "MOST_STEPS" 6, .free "all", .free "any", .free "bool", .free "enumerate", .free "int", .free "isinstance", .free "len", .free "list", .free "range", .slot "Barred" "spot" 0, .slot "Halves" "first" 0, .slot "Halves" "second" 1, .slot "Steps" "line" 0, .slot "Way" "line" 0, .free "str", .free "tuple", .glo "_law_cell_at", .glo "_law_draw", .glo "_law_number", .glo "_law_next", .glo "_law_pick", .glo "_law_words", .glo "_law_meant", .glo "_law_healed", .glo "_law_pointer", .glo "_law_rows", .glo "_law_spots", .glo "_law_at", .glo "_law_is_whole", .glo "_law_sources", .glo "_law_same_kind", .glo "_law_edited", .glo "_law_list", .glo "is_word", .mk "Way", .glo "_law_way", .glo "_law_origins", .glo "_law_halves", .glo "check_way", .glo "check_steps", .meth "Steps" "__len__", .glo "all_spots", .glo "first_with", .glo "meaning", .glo "meant_at", .glo "does_bar", .glo "bars_of", .prop "Way" "words", .prop "Steps" "rows", .glo "seams", .glo "is_label", .glo "is_number", .glo "is_pointer", .glo "is_step", .mk "Steps", .glo "are_whole", .glo "check_whole_by", .glo "pointer_in_half", .glo "half_of", .glo "halves_of", .glo "blocks_of", .glo "blocks", .glo "_law_blocks", .glo "check_gap", .mk "Barred", .mk "Halves", .glo "take_apart", .glo "sources", .glo "standing", .glo "pointing", .glo "kept", .glo "label_of", .glo "edited", .meth "Halves" "shows", .meth "Barred" "shows", .glo "_law_does_bar", .glo "_law_bent", .glo "_law_are_halves", .glo "_law_gap_right", .glo "law"]
abbrev fxs : List Fx := fx0
abbrev css : List Str := ["Steps", "Way", "Halves", "Barred"]
def ds0 : DS := ⟨.glo "_law_cell_at", "_law_cell_at", "_law_cell_at", top 59, []⟩
def ds1 : DS := ⟨.glo "_law_draw", "_law_draw", "_law_draw", top 60, []⟩
def ds2 : DS := ⟨.glo "_law_number", "_law_number", "_law_number", top 61, []⟩
def ds3 : DS := ⟨.glo "_law_next", "_law_next", "_law_next", top 62, []⟩
def ds4 : DS := ⟨.glo "_law_pick", "_law_pick", "_law_pick", top 63, []⟩
def ds5 : DS := ⟨.glo "_law_words", "_law_words", "_law_words", top 74, []⟩
def ds6 : DS := ⟨.glo "_law_meant", "_law_meant", "_law_meant", top 64, []⟩
def ds7 : DS := ⟨.glo "_law_healed", "_law_healed", "_law_healed", top 70, []⟩
def ds8 : DS := ⟨.glo "_law_pointer", "_law_pointer", "_law_pointer", top 68, []⟩
def ds9 : DS := ⟨.glo "_law_rows", "_law_rows", "_law_rows", top 69, []⟩
def ds10 : DS := ⟨.glo "_law_spots", "_law_spots", "_law_spots", top 65, []⟩
def ds11 : DS := ⟨.glo "_law_at", "_law_at", "_law_at", top 66, []⟩
def ds12 : DS := ⟨.glo "_law_is_whole", "_law_is_whole", "_law_is_whole", top 67, []⟩
def ds13 : DS := ⟨.glo "_law_sources", "_law_sources", "_law_sources", top 71, []⟩
def ds14 : DS := ⟨.glo "_law_same_kind", "_law_same_kind", "_law_same_kind", top 72, []⟩
def ds15 : DS := ⟨.glo "_law_edited", "_law_edited", "_law_edited", top 73, []⟩
def ds16 : DS := ⟨.glo "_law_list", "_law_list", "_law_list", top 81, []⟩
def ds17 : DS := ⟨.glo "is_word", "is_word", "is_word", top 40, []⟩
def ds18 : DS := ⟨.meth "Way" "__init__", "__init__", "Way.__init__", inClass (top 41) 1, [("number", .str "raw"), ("above", .str "raw"), ("below", .str "raw"), ("end", .str "raw")]⟩
def ds19 : DS := ⟨.glo "_law_way", "_law_way", "_law_way", top 75, []⟩
def ds20 : DS := ⟨.glo "_law_origins", "_law_origins", "_law_origins", top 76, []⟩
def ds21 : DS := ⟨.glo "_law_halves", "_law_halves", "_law_halves", top 77, []⟩
def ds22 : DS := ⟨.glo "check_way", "check_way", "check_way", top 43, []⟩
def ds23 : DS := ⟨.glo "check_steps", "check_steps", "check_steps", top 28, []⟩
def ds24 : DS := ⟨.meth "Steps" "__len__", "__len__", "Steps.__len__", inClass (top 27) 5, []⟩
def ds25 : DS := ⟨.glo "all_spots", "all_spots", "all_spots", top 23, []⟩
def ds26 : DS := ⟨.glo "first_with", "first_with", "first_with", top 21, []⟩
def ds27 : DS := ⟨.glo "meaning", "meaning", "meaning", top 22, []⟩
def ds28 : DS := ⟨.glo "meant_at", "meant_at", "meant_at", top 24, []⟩
def ds29 : DS := ⟨.glo "does_bar", "does_bar", "does_bar", top 47, []⟩
def ds30 : DS := ⟨.glo "bars_of", "bars_of", "bars_of", top 48, []⟩
def ds31 : DS := ⟨.prop "Way" "words", "words", "Way.words", inClass (top 41) 7, []⟩
def ds32 : DS := ⟨.prop "Steps" "rows", "rows", "Steps.rows", inClass (top 27) 3, []⟩
def ds33 : DS := ⟨.glo "seams", "seams", "seams", top 56, []⟩
def ds34 : DS := ⟨.glo "is_label", "is_label", "is_label", top 17, []⟩
def ds35 : DS := ⟨.glo "is_number", "is_number", "is_number", top 16, []⟩
def ds36 : DS := ⟨.glo "is_pointer", "is_pointer", "is_pointer", top 18, []⟩
def ds37 : DS := ⟨.glo "is_step", "is_step", "is_step", top 19, []⟩
def ds38 : DS := ⟨.meth "Steps" "__init__", "__init__", "Steps.__init__", inClass (top 27) 1, []⟩
def ds39 : DS := ⟨.glo "are_whole", "are_whole", "are_whole", top 25, []⟩
def ds40 : DS := ⟨.glo "check_whole_by", "check_whole_by", "check_whole_by", top 46, []⟩
def ds41 : DS := ⟨.glo "pointer_in_half", "pointer_in_half", "pointer_in_half", top 49, []⟩
def ds42 : DS := ⟨.glo "half_of", "half_of", "half_of", top 50, []⟩
def ds43 : DS := ⟨.glo "halves_of", "halves_of", "halves_of", top 51, []⟩
def ds44 : DS := ⟨.glo "blocks_of", "blocks_of", "blocks_of", top 54, []⟩
def ds45 : DS := ⟨.glo "blocks", "blocks", "blocks", top 57, []⟩
def ds46 : DS := ⟨.glo "_law_blocks", "_law_blocks", "_law_blocks", top 80, []⟩
def ds47 : DS := ⟨.glo "check_gap", "check_gap", "check_gap", top 45, []⟩
def ds48 : DS := ⟨.meth "Barred" "__init__", "__init__", "Barred.__init__", inClass (top 53) 1, []⟩
def ds49 : DS := ⟨.meth "Halves" "__init__", "__init__", "Halves.__init__", inClass (top 52) 1, []⟩
def ds50 : DS := ⟨.glo "take_apart", "take_apart", "take_apart", top 55, []⟩
def ds51 : DS := ⟨.glo "sources", "sources", "sources", top 33, []⟩
def ds52 : DS := ⟨.glo "standing", "standing", "standing", top 34, []⟩
def ds53 : DS := ⟨.glo "pointing", "pointing", "pointing", top 35, []⟩
def ds54 : DS := ⟨.glo "kept", "kept", "kept", top 36, []⟩
def ds55 : DS := ⟨.glo "label_of", "label_of", "label_of", top 38, []⟩
def ds56 : DS := ⟨.glo "edited", "edited", "edited", top 37, []⟩
def ds57 : DS := ⟨.meth "Halves" "shows", "shows", "Halves.shows", inClass (top 52) 3, []⟩
def ds58 : DS := ⟨.meth "Barred" "shows", "shows", "Barred.shows", inClass (top 53) 3, []⟩
def ds59 : DS := ⟨.glo "_law_does_bar", "_law_does_bar", "_law_does_bar", top 79, []⟩
def ds60 : DS := ⟨.glo "_law_bent", "_law_bent", "_law_bent", top 82, []⟩
def ds61 : DS := ⟨.glo "_law_are_halves", "_law_are_halves", "_law_are_halves", top 78, []⟩
def ds62 : DS := ⟨.glo "_law_gap_right", "_law_gap_right", "_law_gap_right", top 83, []⟩
def ds63 : DS := ⟨.glo "law", "law", "law", top 84, []⟩
def fn0 : List DS := [ds0, ds1, ds2, ds3, ds4, ds5, ds6, ds7, ds8, ds9, ds10, ds11, ds12, ds13, ds14, ds15, ds16, ds17, ds18, ds19, ds20, ds21, ds22, ds23, ds24, ds25, ds26, ds27, ds28, ds29, ds30, ds31, ds32, ds33, ds34, ds35, ds36, ds37, ds38, ds39, ds40, ds41, ds42, ds43, ds44, ds45, ds46, ds47, ds48, ds49, ds50, ds51, ds52, ds53, ds54, ds55, ds56, ds57, ds58, ds59, ds60, ds61, ds62, ds63]
abbrev fns : List DS := fn0
abbrev tb0 : List Tb := [("RANKS", [("raw", 0), ("shift", 1), ("follow", 2)])]
abbrev tbs : List Tb := tb0
abbrev R : PySem.W.OpenRow := PySem.W.OpenLaw.row PySem.Challenge.rw_seeabove_k48_whole_seams
abbrev hk : PySem.W.Hook := hookS 6 fxs css fns tbs
noncomputable def ob (s : PySem.W.SharedT) : AlS := obS 6 fxs css fns tbs (HandSHeadRun.getT s)
theorem ob_eq (s : PySem.W.SharedT) : ob s = hk.obs s.abs := obS_eq (HandSHeadRun.getT_eq s)
theorem runF (w : World) : HandSHeadRun.RunEq R (PySem.W.view R.prog [84]) hk ob 20000 names (w.withFollow "special-get-raises" false) := by
  intro os
  kernel_rfl
theorem runT (w : World) : HandSHeadRun.RunEq R (PySem.W.view R.prog [84]) hk ob 20000 names (w.withFollow "special-get-raises" true) := by
  intro os
  kernel_rfl
theorem run (w : World) : HandSHeadRun.RunEq R (PySem.W.view R.prog [84]) hk ob 20000 names w :=
  PySem.W.byRow2 "special-get-raises" (P := fun w => HandSHeadRun.RunEq R (PySem.W.view R.prog [84]) hk ob 20000 names w) runF runT w
theorem facts {w : World} {K : PySem.W.Frag} {h : Heap} {mg : Str → Option Value} (X : K.In h) (G : h.Ns mainGlobals mg) (e : obsS fxs css fns tbs K = valS fns tbs w) : Fc ⟨K, clsA K css⟩ w mg := by
  exact {
    C := cf_of X G (says_b e).2.1,
    g_Barred := cls_mg X G (says_b e).2.1 (k := 3) (by decide),
    g_Halves := cls_mg X G (says_b e).2.1 (k := 2) (by decide),
    g_KINDS := fx_strs X G (says_fx e 0),
    g_LETTERS := fx_strs X G (says_fx e 1),
    g_MOST_NUMBER := fx_int X G (says_fx e 2),
    g_MOST_POINTERS := fx_int X G (says_fx e 3),
    g_MOST_STEPS := fx_int X G (says_fx e 4),
    g_RANKS := says_tb X G e 0,
    g_Steps := cls_mg X G (says_b e).2.1 (k := 0) (by decide),
    g_Way := cls_mg X G (says_b e).2.1 (k := 1) (by decide),
    g_all := fx_free X G (says_fx e 5),
    g_any := fx_free X G (says_fx e 6),
    g_bool := fx_free X G (says_fx e 7),
    g_enumerate := fx_free X G (says_fx e 8),
    g_int := fx_free X G (says_fx e 9),
    g_isinstance := fx_free X G (says_fx e 10),
    g_len := fx_free X G (says_fx e 11),
    g_list := fx_free X G (says_fx e 12),
    g_range := fx_free X G (says_fx e 13),
    s_Barred_spot := fx_slot (says_fx e 14),
    s_Halves_first := fx_slot (says_fx e 15),
    s_Halves_second := fx_slot (says_fx e 16),
    s_Steps_line := fx_slot (says_fx e 17),
    s_Way_line := fx_slot (says_fx e 18),
    g_str := fx_free X G (says_fx e 19),
    g_tuple := fx_free X G (says_fx e 20),
    f__law_cell_at := let ⟨fd, F⟩ := says_fn e 0 (d := ds0); ⟨_, fd, fx_glo X G (says_fx e 21 (f := .glo "_law_cell_at")), F⟩,
    f__law_draw := let ⟨fd, F⟩ := says_fn e 1 (d := ds1); ⟨_, fd, fx_glo X G (says_fx e 22 (f := .glo "_law_draw")), F⟩,
    f__law_number := let ⟨fd, F⟩ := says_fn e 2 (d := ds2); ⟨_, fd, fx_glo X G (says_fx e 23 (f := .glo "_law_number")), F⟩,
    f__law_next := let ⟨fd, F⟩ := says_fn e 3 (d := ds3); ⟨_, fd, fx_glo X G (says_fx e 24 (f := .glo "_law_next")), F⟩,
    f__law_pick := let ⟨fd, F⟩ := says_fn e 4 (d := ds4); ⟨_, fd, fx_glo X G (says_fx e 25 (f := .glo "_law_pick")), F⟩,
    f__law_words := let ⟨fd, F⟩ := says_fn e 5 (d := ds5); ⟨_, fd, fx_glo X G (says_fx e 26 (f := .glo "_law_words")), F⟩,
    f__law_meant := let ⟨fd, F⟩ := says_fn e 6 (d := ds6); ⟨_, fd, fx_glo X G (says_fx e 27 (f := .glo "_law_meant")), F⟩,
    f__law_healed := let ⟨fd, F⟩ := says_fn e 7 (d := ds7); ⟨_, fd, fx_glo X G (says_fx e 28 (f := .glo "_law_healed")), F⟩,
    f__law_pointer := let ⟨fd, F⟩ := says_fn e 8 (d := ds8); ⟨_, fd, fx_glo X G (says_fx e 29 (f := .glo "_law_pointer")), F⟩,
    f__law_rows := let ⟨fd, F⟩ := says_fn e 9 (d := ds9); ⟨_, fd, fx_glo X G (says_fx e 30 (f := .glo "_law_rows")), F⟩,
    f__law_spots := let ⟨fd, F⟩ := says_fn e 10 (d := ds10); ⟨_, fd, fx_glo X G (says_fx e 31 (f := .glo "_law_spots")), F⟩,
    f__law_at := let ⟨fd, F⟩ := says_fn e 11 (d := ds11); ⟨_, fd, fx_glo X G (says_fx e 32 (f := .glo "_law_at")), F⟩,
    f__law_is_whole := let ⟨fd, F⟩ := says_fn e 12 (d := ds12); ⟨_, fd, fx_glo X G (says_fx e 33 (f := .glo "_law_is_whole")), F⟩,
    f__law_sources := let ⟨fd, F⟩ := says_fn e 13 (d := ds13); ⟨_, fd, fx_glo X G (says_fx e 34 (f := .glo "_law_sources")), F⟩,
    f__law_same_kind := let ⟨fd, F⟩ := says_fn e 14 (d := ds14); ⟨_, fd, fx_glo X G (says_fx e 35 (f := .glo "_law_same_kind")), F⟩,
    f__law_edited := let ⟨fd, F⟩ := says_fn e 15 (d := ds15); ⟨_, fd, fx_glo X G (says_fx e 36 (f := .glo "_law_edited")), F⟩,
    f__law_list := let ⟨fd, F⟩ := says_fn e 16 (d := ds16); ⟨_, fd, fx_glo X G (says_fx e 37 (f := .glo "_law_list")), F⟩,
    f_is_word := let ⟨fd, F⟩ := says_fn e 17 (d := ds17); ⟨_, fd, fx_glo X G (says_fx e 38 (f := .glo "is_word")), F⟩,
    f_Way_init := let ⟨fd, F⟩ := says_fn e 18 (d := ds18); ⟨_, fd, fx_mk (says_fx e 39 (f := .mk "Way")), F⟩,
    f__law_way := let ⟨fd, F⟩ := says_fn e 19 (d := ds19); ⟨_, fd, fx_glo X G (says_fx e 40 (f := .glo "_law_way")), F⟩,
    f__law_origins := let ⟨fd, F⟩ := says_fn e 20 (d := ds20); ⟨_, fd, fx_glo X G (says_fx e 41 (f := .glo "_law_origins")), F⟩,
    f__law_halves := let ⟨fd, F⟩ := says_fn e 21 (d := ds21); ⟨_, fd, fx_glo X G (says_fx e 42 (f := .glo "_law_halves")), F⟩,
    f_check_way := let ⟨fd, F⟩ := says_fn e 22 (d := ds22); ⟨_, fd, fx_glo X G (says_fx e 43 (f := .glo "check_way")), F⟩,
    f_check_steps := let ⟨fd, F⟩ := says_fn e 23 (d := ds23); ⟨_, fd, fx_glo X G (says_fx e 44 (f := .glo "check_steps")), F⟩,
    f_Steps_len := let ⟨fd, F⟩ := says_fn e 24 (d := ds24); ⟨_, fd, fx_meth (says_fx e 45 (f := .meth "Steps" "__len__")), F⟩,
    f_all_spots := let ⟨fd, F⟩ := says_fn e 25 (d := ds25); ⟨_, fd, fx_glo X G (says_fx e 46 (f := .glo "all_spots")), F⟩,
    f_first_with := let ⟨fd, F⟩ := says_fn e 26 (d := ds26); ⟨_, fd, fx_glo X G (says_fx e 47 (f := .glo "first_with")), F⟩,
    f_meaning := let ⟨fd, F⟩ := says_fn e 27 (d := ds27); ⟨_, fd, fx_glo X G (says_fx e 48 (f := .glo "meaning")), F⟩,
    f_meant_at := let ⟨fd, F⟩ := says_fn e 28 (d := ds28); ⟨_, fd, fx_glo X G (says_fx e 49 (f := .glo "meant_at")), F⟩,
    f_does_bar := let ⟨fd, F⟩ := says_fn e 29 (d := ds29); ⟨_, fd, fx_glo X G (says_fx e 50 (f := .glo "does_bar")), F⟩,
    f_bars_of := let ⟨fd, F⟩ := says_fn e 30 (d := ds30); ⟨_, fd, fx_glo X G (says_fx e 51 (f := .glo "bars_of")), F⟩,
    f_Way_words := let ⟨fd, F⟩ := says_fn e 31 (d := ds31); ⟨_, _, fd, fx_prop (says_fx e 52 (f := .prop "Way" "words")), F⟩,
    f_Steps_rows := let ⟨fd, F⟩ := says_fn e 32 (d := ds32); ⟨_, _, fd, fx_prop (says_fx e 53 (f := .prop "Steps" "rows")), F⟩,
    f_seams := let ⟨fd, F⟩ := says_fn e 33 (d := ds33); ⟨_, fd, fx_glo X G (says_fx e 54 (f := .glo "seams")), F⟩,
    f_is_label := let ⟨fd, F⟩ := says_fn e 34 (d := ds34); ⟨_, fd, fx_glo X G (says_fx e 55 (f := .glo "is_label")), F⟩,
    f_is_number := let ⟨fd, F⟩ := says_fn e 35 (d := ds35); ⟨_, fd, fx_glo X G (says_fx e 56 (f := .glo "is_number")), F⟩,
    f_is_pointer := let ⟨fd, F⟩ := says_fn e 36 (d := ds36); ⟨_, fd, fx_glo X G (says_fx e 57 (f := .glo "is_pointer")), F⟩,
    f_is_step := let ⟨fd, F⟩ := says_fn e 37 (d := ds37); ⟨_, fd, fx_glo X G (says_fx e 58 (f := .glo "is_step")), F⟩,
    f_Steps_init := let ⟨fd, F⟩ := says_fn e 38 (d := ds38); ⟨_, fd, fx_mk (says_fx e 59 (f := .mk "Steps")), F⟩,
    f_are_whole := let ⟨fd, F⟩ := says_fn e 39 (d := ds39); ⟨_, fd, fx_glo X G (says_fx e 60 (f := .glo "are_whole")), F⟩,
    f_check_whole_by := let ⟨fd, F⟩ := says_fn e 40 (d := ds40); ⟨_, fd, fx_glo X G (says_fx e 61 (f := .glo "check_whole_by")), F⟩,
    f_pointer_in_half := let ⟨fd, F⟩ := says_fn e 41 (d := ds41); ⟨_, fd, fx_glo X G (says_fx e 62 (f := .glo "pointer_in_half")), F⟩,
    f_half_of := let ⟨fd, F⟩ := says_fn e 42 (d := ds42); ⟨_, fd, fx_glo X G (says_fx e 63 (f := .glo "half_of")), F⟩,
    f_halves_of := let ⟨fd, F⟩ := says_fn e 43 (d := ds43); ⟨_, fd, fx_glo X G (says_fx e 64 (f := .glo "halves_of")), F⟩,
    f_blocks_of := let ⟨fd, F⟩ := says_fn e 44 (d := ds44); ⟨_, fd, fx_glo X G (says_fx e 65 (f := .glo "blocks_of")), F⟩,
    f_blocks := let ⟨fd, F⟩ := says_fn e 45 (d := ds45); ⟨_, fd, fx_glo X G (says_fx e 66 (f := .glo "blocks")), F⟩,
    f__law_blocks := let ⟨fd, F⟩ := says_fn e 46 (d := ds46); ⟨_, fd, fx_glo X G (says_fx e 67 (f := .glo "_law_blocks")), F⟩,
    f_check_gap := let ⟨fd, F⟩ := says_fn e 47 (d := ds47); ⟨_, fd, fx_glo X G (says_fx e 68 (f := .glo "check_gap")), F⟩,
    f_Barred_init := let ⟨fd, F⟩ := says_fn e 48 (d := ds48); ⟨_, fd, fx_mk (says_fx e 69 (f := .mk "Barred")), F⟩,
    f_Halves_init := let ⟨fd, F⟩ := says_fn e 49 (d := ds49); ⟨_, fd, fx_mk (says_fx e 70 (f := .mk "Halves")), F⟩,
    f_take_apart := let ⟨fd, F⟩ := says_fn e 50 (d := ds50); ⟨_, fd, fx_glo X G (says_fx e 71 (f := .glo "take_apart")), F⟩,
    f_sources := let ⟨fd, F⟩ := says_fn e 51 (d := ds51); ⟨_, fd, fx_glo X G (says_fx e 72 (f := .glo "sources")), F⟩,
    f_standing := let ⟨fd, F⟩ := says_fn e 52 (d := ds52); ⟨_, fd, fx_glo X G (says_fx e 73 (f := .glo "standing")), F⟩,
    f_pointing := let ⟨fd, F⟩ := says_fn e 53 (d := ds53); ⟨_, fd, fx_glo X G (says_fx e 74 (f := .glo "pointing")), F⟩,
    f_kept := let ⟨fd, F⟩ := says_fn e 54 (d := ds54); ⟨_, fd, fx_glo X G (says_fx e 75 (f := .glo "kept")), F⟩,
    f_label_of := let ⟨fd, F⟩ := says_fn e 55 (d := ds55); ⟨_, fd, fx_glo X G (says_fx e 76 (f := .glo "label_of")), F⟩,
    f_edited := let ⟨fd, F⟩ := says_fn e 56 (d := ds56); ⟨_, fd, fx_glo X G (says_fx e 77 (f := .glo "edited")), F⟩,
    f_Halves_shows := let ⟨fd, F⟩ := says_fn e 57 (d := ds57); ⟨_, fd, fx_meth (says_fx e 78 (f := .meth "Halves" "shows")), F⟩,
    f_Barred_shows := let ⟨fd, F⟩ := says_fn e 58 (d := ds58); ⟨_, fd, fx_meth (says_fx e 79 (f := .meth "Barred" "shows")), F⟩,
    f__law_does_bar := let ⟨fd, F⟩ := says_fn e 59 (d := ds59); ⟨_, fd, fx_glo X G (says_fx e 80 (f := .glo "_law_does_bar")), F⟩,
    f__law_bent := let ⟨fd, F⟩ := says_fn e 60 (d := ds60); ⟨_, fd, fx_glo X G (says_fx e 81 (f := .glo "_law_bent")), F⟩,
    f__law_are_halves := let ⟨fd, F⟩ := says_fn e 61 (d := ds61); ⟨_, fd, fx_glo X G (says_fx e 82 (f := .glo "_law_are_halves")), F⟩,
    f__law_gap_right := let ⟨fd, F⟩ := says_fn e 62 (d := ds62); ⟨_, fd, fx_glo X G (says_fx e 83 (f := .glo "_law_gap_right")), F⟩,
    f_law := let ⟨fd, F⟩ := says_fn e 63 (d := ds63); ⟨_, fd, fx_glo X G (says_fx e 84 (f := .glo "law")), F⟩ }
end Hd
open PySem PySem.W PySem.Calls PyProof.Rows
theorem Hd.holds (hp : ∀ ns : List Int, ns.length ≤ 63 → ∃ S', Wk.m_law [.scr (ns.map Sm.D.int)] [] = .ok (.bl true) S') : PySem.Challenge.rw_seeabove_k48_whole_seams.Holds := by
  w_on; o_law
  refine HandSHeadRun.head_any (r := OpenLaw.row PySem.Challenge.rw_seeabove_k48_whole_seams) (q := view (OpenLaw.row PySem.Challenge.rw_seeabove_k48_whole_seams).prog [84]) (H := Hd.hk) (ob := Hd.ob) (M := 20000) (loose := Hd.names) (d := HandSHeadRun.topDef (OpenLaw.row PySem.Challenge.rw_seeabove_k48_whole_seams).prog 84) (kwd := []) Hd.ob_eq
    (by kernel_rfl) (fun s => by kernel_rfl) Hd.run (by kernel_rfl) (by kernel_rfl) (by kernel_rfl) (by rfl) (by first | assumption | decide +kernel) (by decide +kernel) ⟨rfl, rfl, rfl, rfl, rfl, by decide +kernel⟩ ?hw ?hc
  case hw => w_witness2
  case hc =>
    refine Sm.walk_ofS (l := PySem.Challenge.rw_seeabove_k48_whole_seams) (n := 63) (k := 18) (x := "_law_script") (CX := fun w => L2.CX (PySem.Challenge.rw_seeabove_k48_whole_seams).prog w) rfl (by decide) (by kernel_rfl) ⟨rfl, by decide, by decide⟩ ?F (fun w H s e s' z => Sm.cx_none H s e s' z)
    intro w mg fa h Y G hmg0
    obtain ⟨K, KX, e⟩ := Y
    have hmg : mg ("law" : PySem.Str) = some (.ref fa) := by
      have e : (HandSHeadRun.topDef (OpenLaw.row PySem.Challenge.rw_seeabove_k48_whole_seams).prog 84).name = ("law" : PySem.Str) := by kernel_rfl
      rw [← e]
      exact hmg0
    obtain ⟨ad, fd, h1, hb, hF⟩ := Wk.F_law (P := (PySem.Challenge.rw_seeabove_k48_whole_seams).prog) (Hd.facts KX G e)
    have e2 := hmg.symm.trans h1
    cases e2
    exact ⟨K, fd, _, KX, hb, fun H a ns hl _ hS => Sm.prom_law (c := ⟨K, Sm.clsA K Hd.css⟩) hl hS (hp ns hl), fun base _ _ => hF base⟩


set_option Elab.async false
theorem PySem.Challenge.cw_seeabove_k48_whole_seams_holds : PySem.Challenge.rw_seeabove_k48_whole_seams.Holds := by
  exact Hd.holds Pu.law_ok
